import PyProof.Rows.All
import Wide.All
import OpenK.AllK
import Wide.FinOn
import KE.KStateDown
import HandS.ForMost
import HandS.ForExc
import HandS.TupAny
import HandS.TupMul
import HandS.IsInst
import HandS.Deep
import HandS.Flow
import HandS.Wide
import HandS.Style
import HandS.Zip
import HandS.Lambda
import HandS.More
import KE.GoesEnum
import KE.GoesZip
import HandS.TryMany
import HandS.ExcField
import HandS.Defaults
import HandS.Head3
import HandS.HeadHook4
import HandS.FStr
import HandS.DictComp
import HandS.ExcOwn
import HandS.Star
import KE.KSortKey
import KE.SortCalls
import KE.SortKeyHeap
import HandS.SortKw
import HandS.Keys
import KE.KExcSuper
import PyProof.ExcBaseAll.IndexError
import PyProof.ExcBaseAll.OverflowError
import PyProof.ExcBaseAll.ArithmeticError
import PyProof.ExcBaseAll.LookupError
import PyProof.ExcBaseAll.ValueError
import HandS.ExcInit
import HandS.Nested
import KE.KSuper
import HandS.EndTab
import HandS.Codes
import PySem.Challenge.RW_anyrules_k41_errors_of_home
set_option Elab.async false
set_option linter.all false
set_option maxRecDepth 100000
set_option maxHeartbeats 0
/-! MpCore: values as trees, core syntax, the interpreter, the check of a text against its core text. -/
namespace Mp
open PySem

/-! ### values -/
inductive PV where
  | non
  | bl (b : Bool)
  | int (i : Int)
  | str (s : Str)
  | tup (xs : List PV)
  | lst (xs : List PV)
  | ty (n : String)
  | fn (g : Nat)
  | frz (xs : List PV)
  | dct (ks vs : List PV)
  | ins (c : Nat) (fs : List PV)
  | cas (k : Nat) (xs : List PV)
  | dic (n : Nat)

mutual
def PV.beq : PV → PV → Bool
  | .non, .non => true
  | .bl a, .bl b => a == b
  | .int a, .int b => decide (a = b)
  | .str a, .str b => decide (a.cps.toList = b.cps.toList)
  | .tup a, .tup b => PV.beqL a b
  | .lst a, .lst b => PV.beqL a b
  | .ty a, .ty b => decide (a = b)
  | .fn a, .fn b => decide (a = b)
  | .dct a b, .dct c d => PV.beqL a c && PV.beqL b d
  | .ins a b, .ins c d => decide (a = c) && PV.beqL b d
  | .cas a b, .cas c d => decide (a = c) && PV.beqL b d
  | .dic a, .dic b => decide (a = b)
  | _, _ => false
def PV.beqL : List PV → List PV → Bool
  | [], [] => true
  | x :: xs, y :: ys => x.beq y && PV.beqL xs ys
  | _, _ => false
end

/-! plain data -/
mutual
def PV.toD : PV → PyData
  | .non => .none
  | .bl b => .bool b
  | .int i => .int i
  | .str s => .str s
  | .tup xs => .tuple (PV.toDs xs)
  | .lst xs => .list (PV.toDs xs)
  | .ty _ => .none
  | .fn _ => .none
  | .frz _ => .none
  | .dct ks vs => .dict ((PV.toDs ks).zip (PV.toDs vs))
  | .ins _ _ => .none
  | .cas _ _ => .none
  | .dic _ => .none
def PV.toDs : List PV → List PyData
  | [] => []
  | x :: xs => x.toD :: PV.toDs xs
end
/-! plain data, its depth -/
mutual
def PV.isd : PV → Bool
  | .non => true
  | .bl _ => true
  | .int _ => true
  | .str s => s.cps.toList.all fun c => decide (c < 1114112)
  | .tup xs => PV.isdL xs
  | .lst xs => PV.isdL xs
  | .ty _ => false
  | .fn _ => false
  | .frz _ => false
  | .dct _ _ => false
  | .ins _ _ => false
  | .cas _ _ => false
  | .dic _ => false
def PV.isdL : List PV → Bool
  | [] => true
  | x :: xs => x.isd && PV.isdL xs
end
mutual
def PV.dep : PV → Nat
  | .non => 0
  | .bl _ => 0
  | .int _ => 0
  | .str _ => 0
  | .tup xs => PV.depL xs + 1
  | .lst xs => PV.depL xs + 1
  | .ty _ => 0
  | .fn _ => 0
  | .frz _ => 0
  | .dct ks vs => max (PV.depL ks) (PV.depL vs) + 1
  | .ins _ _ => 0
  | .cas _ xs => PV.depL xs
  | .dic _ => 0
def PV.depL : List PV → Nat
  | [] => 0
  | x :: xs => max x.dep (PV.depL xs)
end
def PV.dat (n : Nat) (x : PV) : Bool := x.isd && decide (x.dep ≤ n)
def PV.datL (n : Nat) (xs : List PV) : Bool := PV.isdL xs && decide (PV.depL xs ≤ n)
mutual
def PV.eqv : PV → PV → Bool
  | .non, .non => true
  | .bl a, .bl b => a == b
  | .bl a, .int j => decide ((if a then 1 else 0) = j)
  | .int i, .bl b => decide (i = (if b then 1 else 0))
  | .int i, .int j => decide (i = j)
  | .str x, .str y => decide (x.cps.toList = y.cps.toList)
  | .lst xs, .lst ys => PV.eqvL xs ys
  | .tup xs, .tup ys => PV.eqvL xs ys
  | _, _ => false
def PV.eqvL : List PV → List PV → Bool
  | [], [] => true
  | x :: xs, y :: ys => x.eqv y && PV.eqvL xs ys
  | _, _ => false
end

/-- a key of a dict -/
def keyOf : PV → Option L2.Key
  | .int i => some (.inl i)
  | .str s => some (.inr s)
  | _ => none
def keysOf : List PV → Option (List L2.Key)
  | [] => some []
  | x :: xs => match keyOf x, keysOf xs with
    | some k, some ks => some (k :: ks)
    | _, _ => none
mutual
/-- no list in it -/
def PV.nol : PV → Bool
  | .lst _ => false
  | .tup xs => PV.nolL xs
  | .dct _ _ => false
  | _ => true
def PV.nolL : List PV → Bool
  | [] => true
  | x :: xs => x.nol && PV.nolL xs
end
/-- what repr is told of -/
def PV.rpt : PV → Bool
  | .dct ks vs => (keysOf ks).isSome && PV.datL 18 ks && PV.datL 18 vs && PV.nolL vs && decide (ks.length = vs.length)
  | x => x.dat 20
mutual
/-- data that hang on draws -/
def PV.isc : PV → Bool
  | .non => true
  | .bl _ => true
  | .int _ => true
  | .str s => s.cps.toList.all fun c => decide (c < 1114112)
  | .tup xs => PV.iscL xs
  | .lst xs => PV.iscL xs
  | .cas _ xs => PV.iscL xs
  | .ty _ => false
  | .fn _ => false
  | .frz _ => false
  | .dct _ _ => false
  | .ins _ _ => false
  | .dic _ => false
def PV.iscL : List PV → Bool
  | [] => true
  | x :: xs => x.isc && PV.iscL xs
end

mutual
/-- nothing that hangs on draws -/
def PV.nod : PV → Bool
  | .tup xs => PV.nodL xs
  | .lst xs => PV.nodL xs
  | .frz xs => PV.nodL xs
  | .dct _ vs => PV.nodL vs
  | .ins _ fs => PV.nodL fs
  | .cas _ _ => false
  | .dic _ => false
  | _ => true
def PV.nodL : List PV → Bool
  | [] => true
  | x :: xs => x.nod && PV.nodL xs
end

/-! ### core syntax -/
/-- what a loop walks -/
inductive IK where
  | val | rng | rng2 | zip | enu | itm | vls
  deriving DecidableEq
/-- built-ins -/
inductive Bi where
  | len | abs | int | max | min | tuple | list | all | any | repr | sum | isi | srt
  deriving DecidableEq
/-- an except clause that answers a text, or a text and the repr of what the error keeps -/
structure Hd where
  c : Nat
  s : Str
  f : Option Str
/-- a def that calls what it is handed and answers a word for how that ends -/
structure Wd where
  name : Str
  par : Str
  hs : List Hd
  fin : Str
inductive Tg where
  | nm (i : Nat)
  | tp (ts : List Tg)
inductive CE where
  | var (i : Nat)
  | bor (i : Nat)
  | cst (v : PV)
  | bin (op : Operator) (a b : CE)
  | neg (a : CE)
  | not (a : CE)
  | and (a b : CE)
  | or (a b : CE)
  | andT (a b : CE)
  | orT (a b : CE)
  | notT (a : CE)
  | tru (a : CE)
  | cmp (op : CmpOp) (a b : CE)
  | chn (o p : CmpOp) (a b c : CE)
  | ife (t a b : CE)
  | tup (es : List CE)
  | lst (es : List CE)
  | sub (a b : CE)
  | slc (a : CE) (lo hi : Option CE)
  | cal (g : Nat) (es : List CE)
  | bui (b : Bi) (es : List CE)
  | rev (a : CE)
  | ded
  | spl (ks : List Nat) (e : CE)
  | lamc (g : Nat) (e : CE)
  | dct (kvs : List CE)
  | fst (es : List CE)
  | fmt (r : Bool) (e : CE)
  | fz (e : CE)
  | lc (own : List Nat) (tg : Tg) (k : IK) (src : List CE) (ifs : List CE) (e : CE)
  | dcp (own : List Nat) (tg : Tg) (k : IK) (src : List CE) (ifs : List CE) (ke ve : CE)
  | fld (c i : Nat) (e : CE)
  | isC (c : Nat) (e : CE)
  | mk (c g : Nat) (es : List CE)
  | srk (g : Nat) (e : CE)
  | lsx (es : List CE) (e : CE)
  | ind (a b : CE)
  | cav (i : Nat) (es : List CE)
  | lcw (g i j : Nat) (ks : List (List Nat))
/-- an error that is raised: of a text, or of an own __init__: its core's number, the field, what is kept -/
inductive Rk where
  | txt
  | ini (g : Nat) (f : Str) (e : CE)
inductive CS where
  | asg (t : Tg) (e : CE)
  | par (is : List Nat) (es : List CE)
  | aug (i : Nat) (op : Operator) (e : CE)
  | set (i : Nat) (ix : CE) (e : CE)
  | app (i : Nat) (e : CE)
  | exp (e : CE)
  | ret (e : CE)
  | retN
  | ite (t : CE) (a b : List CS)
  | whl (t : CE) (b : List CS)
  | fro (tg : Tg) (k : IK) (src : List CE) (b : List CS)
  | brk | cnt | pas | ded
  | rse (c : Nat) (k : Rk)
  | stf (i c j : Nat) (e : CE)
  | stp (i c : Nat) (js : List Nat) (e : CE)
  | asl (i : Nat) (hs : List Nat)

/-! ### states and results -/
inductive Slot where
  | un
  | pv (x : PV)
  | own (new : Bool) (x : PV)
  | lam (hs : List Nat)
abbrev Sg := List Slot
inductive RV where
  | val (x : PV)
  | frs (x : PV)
  | bor (i : Nat)
def RV.bl? : RV → Option Bool
  | .val (.bl b) => some b
  | _ => none
def RV.int? : RV → Option Int
  | .val (.int i) => some i
  | _ => none
def RV.val? : RV → Option PV
  | .val x => some x
  | _ => none
/-- an exception: the class's number, what it keeps -/
structure Xc where
  c : Nat
  fs : List (Str × PV)
inductive Rs (α : Type) where
  | ok (a : α) (s : Sg)
  | er (x : Xc) (s : Sg)
  | no
def Rs.bind {α β : Type} (r : Rs α) (f : α → Sg → Rs β) : Rs β := match r with
  | .ok a s => f a s
  | .er x s => .er x s
  | .no => .no
inductive Ss where
  | nx (s : Sg)
  | rt (r : RV) (s : Sg)
  | bk (s : Sg)
  | ct (s : Sg)
  | er (x : Xc) (s : Sg)
  | no

/-! ### operations on values -/
def line : Nat := 16777216
def okMul (i j : Int) : Bool := decide (i.natAbs.log2 + j.natAbs.log2 < 1000000)
def binI (op : Operator) (i j : Int) : Option Int := match op with
  | .Add => some (i + j)
  | .Sub => some (i - j)
  | .Mult => if okMul i j then some (i * j) else none
  | .FloorDiv => if j = 0 then none else if Builtin.divisionGoesByPylong i j then none else some (i.fdiv j)
  | .Mod => if j = 0 then none else some (i.fmod j)
  | .Pow => if 0 ≤ j && decide (((i.natAbs.log2 + 1 : Nat) : Int) * j ≤ 1000000) then some (i ^ j.toNat) else none
  | _ => none
def repL (xs : List PV) (n : Nat) : List PV := (List.replicate n xs).flatten
def binV (op : Operator) (x y : PV) : Option RV := match op, x, y with
  | op, .int i, .int j => (binI op i j).map fun k => .val (.int k)
  | .Add, .str a, .str b => if a.length + b.length ≤ line then some (.val (.str (a ++ b))) else none
  | .Add, .tup a, .tup b => if a.length + b.length ≤ line then some (.val (.tup (a ++ b))) else none
  | .Add, .lst a, .lst b => if a.length + b.length ≤ line then some (.frs (.lst (a ++ b))) else none
  | .Mult, .lst a, .int k => if 0 ≤ k ∧ k ≤ 1000 ∧ a.length ≤ 1000 then some (.frs (.lst (repL a k.toNat))) else none
  | .Mult, .tup a, .int k => if 2 ≤ k ∧ k ≤ 1000 ∧ a.length ≤ 1000 ∧ 0 < a.length then some (.val (.tup (repL a k.toNat))) else none
  | _, _, _ => none
def ixP (n : Nat) (i : Int) : Option Nat := if 0 ≤ i then (if i < n then some i.toNat else none) else if -(n : Int) ≤ i then some (i + n).toNat else none
def atP {α : Type} (xs : List α) (i : Int) : Option α := match ixP xs.length i with
  | some j => xs[j]?
  | none => none
/-- what a dict has at a key -/
def lookK : List L2.Key → List PV → L2.Key → Option PV
  | k :: l, v :: vs, j => if j = k then some v else lookK l vs j
  | _, _, _ => none
def subV (x y : PV) : Option PV := match x, y with
  | .tup xs, .int i => atP xs i
  | .lst xs, .int i => atP xs i
  | .frz xs, .int i => atP xs i
  | .str s, .int i => if s.length ≤ line then (atP s.cps.toList i).map fun c => .str ⟨#[c]⟩ else none
  | .dct ks vs, y => match keysOf ks, keyOf y with
    | some l, some k => lookK l vs k
    | _, _ => none
  | _, _ => none
def cutP {α : Type} (xs : List α) (lo hi : Option Int) : List α := (xs.drop (HT.sIx xs.length 0 lo)).take (HT.sIx xs.length xs.length hi - HT.sIx xs.length 0 lo)
def slcV (x : PV) (lo hi : Option Int) : Option RV := match x with
  | .tup xs => some (.val (.tup (cutP xs lo hi)))
  | .lst xs => some (.frs (.lst (cutP xs lo hi)))
  | _ => none
def truV (x : PV) : Option Bool := match x with
  | .non => some false
  | .bl b => some b
  | .int i => some (i != 0)
  | .str s => if s.length ≤ line then some (s.length != 0) else none
  | .tup xs => some (!xs.isEmpty)
  | .lst xs => some (!xs.isEmpty)
  | _ => none
def flat : PV → Bool
  | .non | .bl _ | .int _ | .str _ => true
  | _ => false
/-- x in xs -/
def memV (x : PV) : List PV → Bool
  | [] => false
  | y :: ys => if y.eqv x then true else memV x ys
def inV (x y : PV) : Option Bool := match y with
  | .tup ys => if x.dat 20 && PV.datL 20 ys then some (memV x ys) else none
  | .lst ys => if x.dat 20 && PV.datL 20 ys then some (memV x ys) else none
  | .str z => match x with
    | .str s => match s.cps.toList with
      | [c] => some (decide (c ∈ z.cps.toList))
      | _ => none
    | _ => none
  | .dct ks _ => match keysOf ks, keyOf x with
    | some l, some k => some (l.any fun j => decide (j = k))
    | _, _ => none
  | _ => none
def PV.isN : PV → Bool
  | .non => true
  | _ => false
/-- whether it is None -/
def isNo : PV → Option Bool
  | .non => some true
  | .cas _ _ => none
  | .dic _ => none
  | _ => some false
def strs? : PV → PV → Option (Str × Str)
  | .str a, .str b => some (a, b)
  | _, _ => none
/-- two dicts of plain data -/
def eqDG : List L2.Key → List PV → List L2.Key → List PV → Bool
  | k :: l, x :: xs, l', ys => match lookK l' ys k with
    | some y => x.eqv y && eqDG l xs l' ys
    | none => false
  | _, _, _, _ => true
def eqD (x y : PV) : Option Bool := match x, y with
  | .dct ks xs, .dct ks' ys => match keysOf ks, keysOf ks' with
    | some l, some l' => if xs.all (fun v => v.dat 20) = true ∧ ys.all (fun v => v.dat 20) = true then some (decide (ks.length = ks'.length) && eqDG l xs l' ys) else none
    | _, _ => none
  | _, _ => none
/-- alike, whatever is drawn -/
def PV.casq (x y : PV) : Bool := x.isc && !x.isd && decide (x.dep ≤ 20) && x.beq y
def cmpV (op : CmpOp) (x y : PV) : Option Bool := match op with
  | .Eq => match strs? x y with
    | some (a, b) => some (decide (a = b))
    | none => if x.dat 20 && y.dat 20 then some (x.eqv y) else if PV.casq x y then some true else eqD x y
  | .NotEq => match strs? x y with
    | some (a, b) => some (!decide (a = b))
    | none => if x.dat 20 && y.dat 20 then some (!x.eqv y) else if PV.casq x y then some false else (eqD x y).map (!·)
  | .Is => match y with
    | .non => isNo x
    | _ => none
  | .IsNot => match y with
    | .non => (isNo x).map (!·)
    | _ => none
  | .In => inV x y
  | .NotIn => (inV x y).map (!·)
  | .Lt => match x, y with
    | .int i, .int j => some (decide (i < j))
    | .str a, .str b => some (decide (a.cps.toList < b.cps.toList))
    | _, _ => none
  | .LtE => match x, y with
    | .int i, .int j => some (decide (i ≤ j))
    | .str a, .str b => some (!decide (b.cps.toList < a.cps.toList))
    | _, _ => none
  | .Gt => match x, y with
    | .int i, .int j => some (decide (j < i))
    | _, _ => none
  | .GtE => match x, y with
    | .int i, .int j => some (decide (j ≤ i))
    | _, _ => none
def bools : List PV → Option (List Bool)
  | [] => some []
  | .bl b :: r => match bools r with
    | some l => some (b :: l)
    | none => none
  | _ => none
def intsOf : List PV → Option (List Int)
  | [] => some []
  | .int b :: r => match intsOf r with
    | some l => some (b :: l)
    | none => none
  | _ => none
def strsOf : List PV → Option (List Str)
  | [] => some []
  | .str b :: r => match strsOf r with
    | some l => some (b :: l)
    | none => none
  | _ => none
def insS (x : Str) : List Str → List Str
  | [] => [x]
  | y :: r => if Spec.ltCps y.cps.toList x.cps.toList then y :: insS x r else x :: y :: r
def isortS : List Str → List Str
  | [] => []
  | x :: r => insS x (isortS r)
/-- the class of a value, by a built-in class's name -/
def isiV (x : PV) (n : String) : Option Bool :=
  let t := match x with
    | .non => "NoneType"
    | .bl _ => "bool"
    | .int _ => "int"
    | .str _ => "str"
    | .tup _ => "tuple"
    | .lst _ => "list"
    | .ty _ => ""
    | .fn _ => ""
    | .frz _ => ""
    | .dct _ _ => "dict"
    | .ins _ _ => ""
    | .cas _ _ => ""
    | .dic _ => ""
  if t = "" then none
  else if n = "int" then some (t = "int" || t = "bool")
  else if n = "bool" || n = "str" || n = "tuple" || n = "list" || n = "dict" then some (decide (t = n)) else none
def biV (b : Bi) (xs : List PV) : Option RV := match b, xs with
  | .len, [.tup l] => some (.val (.int l.length))
  | .len, [.lst l] => some (.val (.int l.length))
  | .len, [.frz l] => some (.val (.int l.length))
  | .len, [.dct ks _] => some (.val (.int ks.length))
  | .len, [.str s] => if s.length ≤ line then some (.val (.int s.length)) else none
  | .abs, [.int i] => some (.val (.int (if i < 0 then -i else i)))
  | .int, [.int i] => some (.val (.int i))
  | .int, [.bl b] => some (.val (.int (if b then 1 else 0)))
  | .max, [.int i, .int j] => some (.val (.int (if j > i then j else i)))
  | .min, [.int i, .int j] => some (.val (.int (if j < i then j else i)))
  | .tuple, [.tup l] => some (.val (.tup l))
  | .tuple, [.lst l] => some (.val (.tup l))
  | .list, [.tup l] => some (.frs (.lst l))
  | .list, [.lst l] => some (.frs (.lst l))
  | .all, [.lst l] => match bools l with
    | some bs => some (.val (.bl (bs.all id)))
    | none => none
  | .any, [.lst l] => match bools l with
    | some bs => some (.val (.bl (bs.any id)))
    | none => none
  | .sum, [.lst l] => match intsOf l with
    | some is => some (.val (.int is.sum))
    | none => none
  | .srt, [.lst l] => match strsOf l with
    | some ss => if ss.length < 64 ∧ PyProof.Rows.sortedS (isortS ss) = true then some (.frs (.lst ((isortS ss).map .str))) else none
    | none => none
  | .srt, [.dct ks _] => match strsOf ks with
    | some ss => if ss.length < 64 ∧ PyProof.Rows.sortedS (isortS ss) = true then some (.frs (.lst ((isortS ss).map .str))) else none
    | none => none
  | .repr, [x] => if x.rpt && x.toD.showable && decide (x.toD.shown.length ≤ line) then some (.val (.str x.toD.shown)) else none
  | .isi, [x, .ty n] => match isiV x n with
    | some b => some (.val (.bl b))
    | none => none
  | _, _ => none
/-- the items that a loop walks -/
def itV (k : IK) (xs : List PV) : Option (List PV) := match k, xs with
  | .val, [.tup l] => some l
  | .val, [.lst l] => some l
  | .val, [.dct ks _] => if (keysOf ks).isSome then some ks else none
  | .itm, [.dct ks vs] => if (keysOf ks).isSome then some (List.zipWith (fun k v => .tup [k, v]) ks vs) else none
  | .vls, [.dct _ vs] => some vs
  | .val, [.str s] => if s.length ≤ line then some (s.cps.toList.map fun c => .str ⟨#[c]⟩) else none
  | .rng, [.int j] => if -(2 ^ 62) ≤ j ∧ j < 2 ^ 62 then some ((List.range j.toNat).map fun (i : Nat) => PV.int (0 + i)) else none
  | .rng2, [.int i, .int j] => if -(2 ^ 62) ≤ i ∧ i < 2 ^ 62 ∧ -(2 ^ 62) ≤ j ∧ j < 2 ^ 62 then some ((List.range (j - i).toNat).map fun (k : Nat) => PV.int (i + k)) else none
  | .zip, [.lst a, .lst b] => some (List.zipWith (fun x y => .tup [x, y]) a b)
  | .zip, [.tup a, .tup b] => some (List.zipWith (fun x y => .tup [x, y]) a b)
  | .zip, [.lst a, .tup b] => some (List.zipWith (fun x y => .tup [x, y]) a b)
  | .zip, [.tup a, .lst b] => some (List.zipWith (fun x y => .tup [x, y]) a b)
  | .enu, [.lst a] => some (a.zipIdx.map fun p => .tup [.int p.2, p.1])
  | .enu, [.tup a] => some (a.zipIdx.map fun p => .tup [.int p.2, p.1])
  | _, _ => none

/-! ### the interpreter -/
/-- what stands behind a reading now -/
def deref (s : Sg) : RV → Option PV
  | .val x => some x
  | .frs x => some x
  | .bor i => match s[i]? with
    | some (.pv x) => some x
    | some (.own _ x) => some x
    | _ => none
def derefs (s : Sg) : List RV → Option (List PV)
  | [] => some []
  | r :: rs => match deref s r, derefs s rs with
    | some x, some xs => some (x :: xs)
    | _, _ => none
/-- what must be told apart from its copies as long as it may be written -/
def PV.mut : PV → Bool
  | .dct _ _ => true
  | .cas _ _ => true
  | .dic _ => true
  | _ => false
/-- as a part of something else -/
def valOf : RV → Option PV
  | .val x => some x
  | .frs x => if x.mut then none else some x
  | .bor _ => none
def valsOf : List RV → Option (List PV)
  | [] => some []
  | r :: rs => match valOf r, valsOf rs with
    | some x, some xs => some (x :: xs)
    | _, _ => none
def slotOf : RV → Option Slot
  | .val x => some (.pv x)
  | .frs x => some (.own true x)
  | .bor _ => none
def ret1 (s : Sg) (o : Option RV) : Rs RV := match o with
  | some r => .ok r s
  | none => .no
mutual
def Tg.store : Tg → PV → Sg → Option Sg
  | .nm i, x, s => if i < s.length then some (s.set i (.pv x)) else none
  | .tp ts, .tup xs, s => Tg.storeL ts xs s
  | .tp _, _, _ => none
def Tg.storeL : List Tg → List PV → Sg → Option Sg
  | [], [], s => some s
  | t :: ts, x :: xs, s => match t.store x s with
    | some s1 => Tg.storeL ts xs s1
    | none => none
  | _, _, _ => none
end
mutual
def Tg.slots : Tg → List Nat
  | .nm i => [i]
  | .tp ts => Tg.slotsL ts
def Tg.slotsL : List Tg → List Nat
  | [] => []
  | t :: ts => t.slots ++ Tg.slotsL ts
end
def Tg.asg (t : Tg) (r : RV) (s : Sg) : Option Sg := match t, r with
  | .nm i, .frs x => if i < s.length then some (s.set i (.own true x)) else none
  | t, .val x => t.store x s
  | _, _ => none
/-- the slots i forgotten -/
def wipeP (s : Sg) : List Nat → Sg
  | [] => s
  | v :: vs => (wipeP s vs).set v .un
/-- .. and as they were -/
def backP (old s : Sg) : List Nat → Sg
  | [] => s
  | v :: vs => (backP old s vs).set v (old[v]?.getD .un)
def lcGo (own : List Nat) (tg : Tg) (tst : Sg → Rs Bool) (elt : Sg → Rs RV) : List PV → Nat → List PV → Sg → Rs (List PV)
  | [], _, acc, s => .ok acc.reverse s
  | x :: xs, n, acc, s => match tg.store x (wipeP s own) with
    | none => .no
    | some s1 => match tst s1 with
      | .ok false s2 => lcGo own tg tst elt xs n acc (backP s s2 own)
      | .ok true s2 => match elt s2 with
        | .ok r s3 => match valOf r with
          | some v => if n < line then lcGo own tg tst elt xs (n + 1) (v :: acc) (backP s s3 own) else .no
          | none => .no
        | _ => .no
      | _ => .no
/-- a new key of a small dict -/
def dkOk (ks : List PV) (x : PV) : Bool := match keysOf ks, keyOf x with
  | some l, some k => decide ((l ++ [k]).Nodup) && decide (l.length < 15)
  | _, _ => false
def dcGo (own : List Nat) (tg : Tg) (tst : Sg → Rs Bool) (ke ve : Sg → Rs RV) : List PV → List PV → List PV → Sg → Rs PV
  | [], ks, vs, s => .ok (.dct ks vs) s
  | x :: xs, ks, vs, s => match tg.store x (wipeP s own) with
    | none => .no
    | some s1 => match tst s1 with
      | .ok false s2 => dcGo own tg tst ke ve xs ks vs (backP s s2 own)
      | .ok true s2 => match ke s2 with
        | .ok (.val kx) s3 => match ve s3 with
          | .ok r s4 => match valOf r with
            | some v => if dkOk ks kx = true then dcGo own tg tst ke ve xs (ks ++ [kx]) (vs ++ [v]) (backP s s4 own) else .no
            | none => .no
          | _ => .no
        | _ => .no
      | _ => .no
def isBl : PV → Option Bool
  | .bl b => some b
  | _ => none
def asB (r : Rs RV) : Rs Bool := r.bind fun v s => match deref s v with
  | some x => match truV x with
    | some b => .ok b s
    | none => .no
  | none => .no
/-- borrowed slots after a call: the i-th argument's end -/
def giveBack : List RV → Sg → Sg → Sg
  | .bor i :: rs, a :: as, s => giveBack rs as (s.set i a)
  | _ :: rs, _ :: as, s => giveBack rs as s
  | _, _, s => s
def argSlots (s : Sg) (mp : List Nat) : Nat → List RV → Option Sg
  | _, [] => some []
  | k, r :: rs => match argSlots s mp (k + 1) rs with
    | none => none
    | some l => match r with
      | .val x => some (.pv x :: l)
      | .frs x => some (.own false x :: l)
      | .bor i => if mp.contains k then (match s[i]? with
        | some (.own _ x) => some (.own false x :: l)
        | _ => none) else none
def bors : List RV → List Nat
  | [] => []
  | .bor i :: r => i :: bors r
  | _ :: r => bors r
/-- a call: g's number, the slots of its arguments -/
abbrev Cl := Nat → Sg → Rs RV
structure Fd where
  name : Str
  N : List Str
  np : Nat
  dfl : List PV
  mp : List Nat
  body : List CS
  wd : Option Wd
  lm : Bool
def isBor : RV → Bool
  | .bor _ => true
  | _ => false
def callG (cl : Cl) (tb : Nat → Option Fd) (g : Nat) (rs : List RV) (s : Sg) : Rs RV := match tb g with
  | none => .no
  | some d => if rs.length ≤ d.np ∧ d.np ≤ rs.length + d.dfl.length ∧ (bors rs).Nodup then
      match argSlots s d.mp 0 rs with
      | none => .no
      | some as => match cl g (as ++ (d.dfl.drop (rs.length + d.dfl.length - d.np)).map Slot.pv) with
        | .ok r as' => if isBor r then .no else .ok r (giveBack rs as' s)
        | .er x as' => .er x (giveBack rs as' s)
        | .no => .no
    else .no
/-- the mark of a run over draws: the numbers of what each draw picks from -/
def MDNO : Nat := 1000000
def isAbs (tb : Nat → Option Fd) : Bool := (tb MDNO).isSome
def nsOf (tb : Nat → Option Fd) : List Nat := match tb MDNO with
  | some d => d.mp
  | none => []
/-- the state to be read only -/
def ro (s : Sg) : Sg := s.map fun
  | .pv x => .pv x
  | _ => .un
def PV.pick : Nat → List PV → PV
  | _, [] => .non
  | _, [x] => x
  | 0, x :: _ => x
  | n + 1, _ :: xs => PV.pick n xs
/-- draw k told: i -/
def PV.subK (k i : Nat) : PV → PV
  | .cas j xs => if j = k then PV.pick i xs else .cas j xs
  | x => x
def subS (k i : Nat) (s : Sg) : Sg := s.map fun
  | .pv x => .pv (x.subK k i)
  | y => y
def allSome {α : Type} : List (Option α) → Option (List α)
  | [] => some []
  | none :: _ => none
  | some x :: xs => match allSome xs with
    | some ys => some (x :: ys)
    | none => none
def mkCas (k : Nat) : List PV → Option PV
  | [] => none
  | x :: xs => if xs.all (x.beq ·) then some x else some (.cas k (x :: xs))
/-- the answer, draw by draw where it hangs on them -/
def spGo (ns : List Nat) (f : Sg → Rs RV) : List Nat → Sg → Option PV
  | [], s => match f s with
    | .ok r _ => valOf r
    | _ => none
  | k :: ks, s => match f s with
    | .ok r _ => valOf r
    | .er _ _ => none
    | .no => match allSome ((List.range (ns.getD k 0)).map fun i => spGo ns f ks (subS k i s)) with
      | some xs => mkCas k xs
      | none => none
def hdGo (x : Xc) : List Hd → Option PV
  | [] => none
  | h :: r => if x.c = h.c then (match h.f with
      | none => some (.str h.s)
      | some f => match x.fs.lookup f with
        | some v => match biV .repr [v] with
          | some (.val (.str t)) => if h.s.length + t.length ≤ line then some (.str (h.s ++ t)) else none
          | _ => none
        | none => none) else hdGo x r
def runW (w : Wd) : Rs RV → Option PV
  | .ok _ _ => some (.str w.fin)
  | .er x _ => hdGo x w.hs
  | .no => none
/-- keys and values, one after the other -/
def unpair : List PV → Option (List PV × List PV)
  | [] => some ([], [])
  | [_] => none
  | k :: v :: r => match unpair r with
    | some (ks, vs) => some (k :: ks, v :: vs)
    | none => none
/-- a dict by its pairs -/
def dctV (l : List PV) : Option PV := match unpair l with
  | some (ks, vs) => match keysOf ks with
    | some l => if l.Nodup ∧ ks.length ≤ 15 then some (.dct ks vs) else none
    | none => none
  | none => none
def catS : List PV → Option Str
  | [] => some ⟨#[]⟩
  | .str a :: r => match catS r with
    | some b => if a.length + b.length ≤ line then some (a ++ b) else none
    | none => none
  | _ => none
def fmtV (r : Bool) (x : PV) : Option PV := if r then (match biV .repr [x] with
    | some (.val (.str t)) => some (.str t)
    | _ => none) else (match x with
    | .str t => if t.length ≤ line then some (.str t) else none
    | .int _ => (match biV .repr [x] with
      | some (.val (.str t)) => some (.str t)
      | _ => none)
    | _ => none)
/-- a dict that is written no more -/
def fzV (r : RV) (s : Sg) : Rs RV := match r with
  | .frs (.dct ks vs) => .ok (.val (.dct ks vs)) s
  | .bor i => match s[i]? with
    | some (.own _ (.dct ks vs)) => .ok (.val (.dct ks vs)) (s.set i (.pv (.dct ks vs)))
    | _ => .no
  | _ => .no
/-- .. and the lambdas' lists -/
def roK (s : Sg) : Sg := s.map fun
  | .pv x => .pv x
  | .lam hs => .lam hs
  | _ => .un
/-- the field i of an instance of the class c -/
def fldV (c i : Nat) : PV → Option PV
  | .ins c' xs => if c' = c then xs[i]? else none
  | _ => none
/-- is it an instance of the class c? -/
def isCV (c : Nat) : PV → Option Bool
  | .ins c' _ => some (decide (c' = c))
  | .non => some false
  | .bl _ => some false
  | .int _ => some false
  | .str _ => some false
  | .tup _ => some false
  | .lst _ => some false
  | .dct _ _ => some false
  | _ => none
/-- an instance is made -/
def mkG (cl : Cl) (tb : Nat → Option Fd) (c g : Nat) (rs : List RV) (s : Sg) : Rs RV := match tb g with
  | none => .no
  | some d => if rs.length + 1 = d.np ∧ d.mp = [0] then
      match argSlots s [] 1 rs with
      | none => .no
      | some as => match cl g (.own false (.ins c []) :: as) with
        | .ok (.val .non) (.own _ (.ins c' xs) :: _) => if c' = c then .ok (.frs (.ins c xs)) s else .no
        | .er x _ => .er x s
        | _ => .no
    else .no
/-- what a key tells of each item -/
def keysG (cl : Cl) (tb : Nat → Option Fd) (g : Nat) : List PV → Sg → Option (List Int)
  | [], _ => some []
  | x :: xs, s => match callG cl tb g [.val x] s with
    | .ok (.val (.int i)) _ => (match keysG cl tb g xs s with
      | some is => some (i :: is)
      | none => none)
    | _ => none
def insK (x : PV × Int) : List (PV × Int) → List (PV × Int)
  | [] => [x]
  | y :: r => if x.2 ≤ y.2 then x :: y :: r else y :: insK x r
def isortK : List (PV × Int) → List (PV × Int)
  | [] => []
  | x :: r => insK x (isortK r)
def ascK : List (PV × Int) → Bool
  | [] => true
  | [_] => true
  | x :: y :: r => decide (x.2 < y.2) && ascK (y :: r)
/-- sorted by a key that tells all apart -/
def srtK (xs : List PV) (is : List Int) : Option (List PV) :=
  if xs.length < 64 ∧ ascK (isortK (xs.zip is)) = true then some ((isortK (xs.zip is)).map (·.1)) else none
def seqOf : PV → Option (List PV)
  | .tup l => some l
  | .lst l => some l
  | _ => none
/-- the items of what is starred -/
def starG (f : Sg → Rs RV) (s : Sg) : Rs (List PV) := (f s).bind fun r s1 => match deref s1 r with
  | some x => match seqOf x with
    | some m => .ok m s1
    | none => .no
  | none => .no
/-- the first place of an equal one -/
def indV (x : PV) : List PV → Nat → Option Nat
  | [], _ => none
  | y :: ys, n => if y.eqv x then some n else indV x ys (n + 1)
def isLstV : Option PV → Bool
  | some (.lst _) => true
  | _ => false
def indG : Option PV → Option PV → Option Nat
  | some (.lst l), some v => if v.dat 20 && PV.datL 20 l then indV v l 0 else none
  | _, _ => none
/-- a word for how a lambda ends -/
def wordG (w : Wd) (cl : Cl) (h : Nat) (s : Sg) : Rs RV := match runW w (cl h (ro s)) with
  | some v => .ok (.val v) s
  | none => .no
def word1 (tb : Nat → Option Fd) (w : Wd) (cl : Cl) (h : Nat) (ks : List Nat) (s : Sg) : Option PV :=
  if isAbs tb then spGo (nsOf tb) (wordG w cl h) ks (ro s) else runW w (cl h (ro s))
def wordsG (tb : Nat → Option Fd) (w : Wd) (cl : Cl) : List Nat → List (List Nat) → Sg → Option (List PV)
  | [], _, _ => some []
  | h :: hs, ks, s => match word1 tb w cl h (ks.headD []) s, wordsG tb w cl hs ks.tail s with
    | some v, some vs => some (v :: vs)
    | _, _ => none
def lamsAt (s : Sg) (i : Nat) : Option (List Nat) := match s[i]? with
  | some (.lam hs) => some hs
  | _ => none
def fnAt (s : Sg) (i : Nat) : Option Nat := match s[i]? with
  | some (.pv (.fn g)) => some g
  | _ => none
mutual
def evE (cl : Cl) (tb : Nat → Option Fd) : CE → Sg → Rs RV
  | .var i, s => match s[i]? with
    | some (.pv x) => .ok (.val x) s
    | some (.own _ x) => if x.mut then .no else .ok (.val x) (s.set i (.pv x))
    | _ => .no
  | .bor i, s => match s[i]? with
    | some (.pv x) => .ok (.val x) s
    | some (.own _ _) => .ok (.bor i) s
    | _ => .no
  | .cst v, s => if !v.nod && isAbs tb then .no else .ok (.val v) s
  | .bin op a b, s => (evE cl tb a s).bind fun x s1 => (evE cl tb b s1).bind fun y s2 => match deref s2 x, deref s2 y with
    | some u, some v => ret1 s2 (binV op u v)
    | _, _ => .no
  | .neg a, s => (evE cl tb a s).bind fun x s1 => match x.int? with
    | some i => .ok (.val (.int (-i))) s1
    | none => .no
  | .not a, s => (asB (evE cl tb a s)).bind fun b s1 => .ok (.val (.bl !b)) s1
  | .and a b, s => (evE cl tb a s).bind fun x s1 => match x.bl? with
    | some true => evE cl tb b s1
    | some false => .ok (.val (.bl false)) s1
    | none => .no
  | .or a b, s => (evE cl tb a s).bind fun x s1 => match x.bl? with
    | some false => evE cl tb b s1
    | some true => .ok (.val (.bl true)) s1
    | none => .no
  | .andT a b, s => (asB (evE cl tb a s)).bind fun c s1 => if c then (asB (evE cl tb b s1)).bind fun d s2 => .ok (.val (.bl d)) s2 else .ok (.val (.bl false)) s1
  | .orT a b, s => (asB (evE cl tb a s)).bind fun c s1 => if c then .ok (.val (.bl true)) s1 else (asB (evE cl tb b s1)).bind fun d s2 => .ok (.val (.bl d)) s2
  | .notT a, s => (asB (evE cl tb a s)).bind fun c s1 => .ok (.val (.bl !c)) s1
  | .tru a, s => evE cl tb a s
  | .cmp op a b, s => (evE cl tb a s).bind fun x s1 => (evE cl tb b s1).bind fun y s2 => match deref s2 x, deref s2 y with
    | some u, some v => match cmpV op u v with
      | some c => .ok (.val (.bl c)) s2
      | none => .no
    | _, _ => .no
  | .chn o p a b c, s => (evE cl tb a s).bind fun x s1 => (evE cl tb b s1).bind fun y s2 => match x.val?, y.val? with
    | some u, some v => match cmpV o u v with
      | some true => (evE cl tb c s2).bind fun z s3 => match z.val? with
        | some w => match cmpV p v w with
          | some d => .ok (.val (.bl d)) s3
          | none => .no
        | none => .no
      | some false => .ok (.val (.bl false)) s2
      | none => .no
    | _, _ => .no
  | .ife t a b, s => (asB (evE cl tb t s)).bind fun c s1 => if c then evE cl tb a s1 else evE cl tb b s1
  | .tup es, s => (evEs cl tb es s).bind fun rs s1 => match valsOf rs with
    | some l => if l.length ≤ line then .ok (.val (.tup l)) s1 else .no
    | none => .no
  | .lst es, s => (evEs cl tb es s).bind fun rs s1 => match valsOf rs with
    | some l => if l.length ≤ line then .ok (.frs (.lst l)) s1 else .no
    | none => .no
  | .sub a b, s => (evE cl tb a s).bind fun x s1 => (evE cl tb b s1).bind fun y s2 => match deref s2 x, deref s2 y with
    | some u, some v => match subV u v with
      | some w => .ok (.val w) s2
      | none => .no
    | _, _ => .no
  | .slc a lo hi, s => (evE cl tb a s).bind fun x s1 => (evO cl tb lo s1).bind fun l s2 => (evO cl tb hi s2).bind fun h s3 => match deref s3 x with
    | some u => ret1 s3 (slcV u l h)
    | none => .no
  | .cal g es, s => (evEs cl tb es s).bind fun rs s1 => callG cl tb g rs s1
  | .bui b es, s => (evEs cl tb es s).bind fun rs s1 => match derefs s1 rs with
    | some l => ret1 s1 (biV b l)
    | none => .no
  | .rev a, s => (evE cl tb a s).bind fun x s1 => match deref s1 x with
    | some (.lst l) => .ok (.frs (.lst l.reverse)) s1
    | _ => .no
  | .ded, _ => .no
  | .spl ks e, s => if isAbs tb then (match spGo (nsOf tb) (evE cl tb e) ks (ro s) with
      | some v => .ok (.val v) s
      | none => .no) else (match evE cl tb e (ro s) with
      | .ok r _ => (match valOf r with
        | some v => .ok (.val v) s
        | none => .no)
      | _ => .no)
  | .lamc g e, s => match tb g with
    | some d => match d.wd with
      | some w => match runW w (evE cl tb e (ro s)) with
        | some v => .ok (.val v) s
        | none => .no
      | none => .no
    | none => .no
  | .dct kvs, s => (evEs cl tb kvs s).bind fun rs s1 => match valsOf rs with
    | some l => match dctV l with
      | some x => .ok (.frs x) s1
      | none => .no
    | none => .no
  | .fst es, s => match evEs cl tb es s with
    | .ok rs s1 => (match valsOf rs with
      | some l => match catS l with
        | some t => .ok (.val (.str t)) s1
        | none => .no
      | none => .no)
    | _ => .no
  | .fmt r e, s => (evE cl tb e s).bind fun x s1 => match deref s1 x with
    | some u => match fmtV r u with
      | some v => .ok (.val v) s1
      | none => .no
    | none => .no
  | .fz e, s => (evE cl tb e s).bind fun r s1 => fzV r s1
  | .lc own tg k src ifs e, s => (evEs cl tb src s).bind fun rs s1 => match valsOf rs with
    | some l => match itV k l with
      | some xs => (lcGo own tg (evT cl tb ifs) (evE cl tb e) xs 0 [] s1).bind fun ys s2 => .ok (.frs (.lst ys)) s2
      | none => .no
    | none => .no
  | .dcp own tg k src ifs ke ve, s => (evEs cl tb src s).bind fun rs s1 => match valsOf rs with
    | some l => match itV k l with
      | some xs => (dcGo own tg (evT cl tb ifs) (evE cl tb ke) (evE cl tb ve) xs [] [] s1).bind fun x s2 => .ok (.frs x) s2
      | none => .no
    | none => .no
  | .fld c i e, s => (evE cl tb e s).bind fun r s1 => match deref s1 r with
    | some x => match fldV c i x with
      | some v => .ok (.val v) s1
      | none => .no
    | none => .no
  | .isC c e, s => (evE cl tb e s).bind fun r s1 => match deref s1 r with
    | some x => match isCV c x with
      | some b => .ok (.val (.bl b)) s1
      | none => .no
    | none => .no
  | .mk c g es, s => (evEs cl tb es s).bind fun rs s1 => mkG cl tb c g rs s1
  | .srk g e, s => (evE cl tb e s).bind fun r s1 => match deref s1 r with
    | some (.lst l) => match keysG cl tb g l (ro s1) with
      | some is => match srtK l is with
        | some ys => .ok (.frs (.lst ys)) s1
        | none => .no
      | none => .no
    | _ => .no
  | .lsx es e, s => (evLx cl tb (evE cl tb e) es s).bind fun l s1 => if l.length ≤ line then .ok (.frs (.lst l)) s1 else .no
  | .ind a b, s => (evE cl tb a s).bind fun x s1 => match isLstV (deref s1 x) with
    | true => (evE cl tb b s1).bind fun y s2 => match indG (deref s2 x) (deref s2 y) with
      | some n => .ok (.val (.int n)) s2
      | none => .no
    | false => .no
  | .cav i es, s => match fnAt s i with
    | some g => (evEs cl tb es s).bind fun rs s1 => callG cl tb g rs s1
    | none => .no
  | .lcw g i _ ks, s => match lamsAt s i, tb g with
    | some hs, some d => match d.wd with
      | some w => match wordsG tb w cl hs ks s with
        | some l => .ok (.frs (.lst l)) s
        | none => .no
      | none => .no
    | _, _ => .no
def evLx (cl : Cl) (tb : Nat → Option Fd) (f : Sg → Rs RV) : List CE → Sg → Rs (List PV)
  | [], s => starG f s
  | e :: es, s => (evE cl tb e s).bind fun r s1 => match r.val? with
    | some x => (evLx cl tb f es s1).bind fun m s2 => .ok (x :: m) s2
    | none => .no
def evEs (cl : Cl) (tb : Nat → Option Fd) : List CE → Sg → Rs (List RV)
  | [], s => .ok [] s
  | e :: es, s => (evE cl tb e s).bind fun r s1 => (evEs cl tb es s1).bind fun rs s2 => .ok (r :: rs) s2
def evO (cl : Cl) (tb : Nat → Option Fd) : Option CE → Sg → Rs (Option Int)
  | none, s => .ok none s
  | some e, s => (evE cl tb e s).bind fun r s1 => match r.int? with
    | some i => .ok (some i) s1
    | none => .no
def evT (cl : Cl) (tb : Nat → Option Fd) : List CE → Sg → Rs Bool
  | [], s => .ok true s
  | e :: es, s => (asB (evE cl tb e s)).bind fun b s1 => if b then evT cl tb es s1 else .ok false s1
end
/-- turns of a while -/
def fuel : Nat := 1000000000
def whGo (t : Sg → Rs Bool) (b : Sg → Ss) : Nat → Sg → Ss
  | 0, _ => .no
  | n + 1, s => match t s with
    | .ok true s1 => match b s1 with
      | .nx s2 => whGo t b n s2
      | .ct s2 => whGo t b n s2
      | .bk s2 => .nx s2
      | r => r
    | .ok false s1 => .nx s1
    | .er x s1 => .er x s1
    | .no => .no
def frGo (tg : Tg) (b : Sg → Ss) : List PV → Sg → Ss
  | [], s => .nx s
  | x :: xs, s => match tg.store x s with
    | none => .no
    | some s1 => match b s1 with
      | .nx s2 => frGo tg b xs s2
      | .ct s2 => frGo tg b xs s2
      | .bk s2 => .nx s2
      | r => r
def toSs {α : Type} (r : Rs α) (f : α → Sg → Ss) : Ss := match r with
  | .ok a s => f a s
  | .er x s => .er x s
  | .no => .no
def setAll : List Nat → List RV → Sg → Option Sg
  | [], [], s => some s
  | i :: is, r :: rs, s => match Tg.asg (.nm i) r s with
    | some s1 => setAll is rs s1
    | none => none
  | _, _, _ => none
def ownL (s : Sg) (i : Nat) : Option (Bool × List PV) := match s[i]? with
  | some (.own t (.lst l)) => some (t, l)
  | _ => none
def isOwnL (s : Sg) (i : Nat) : Bool := match s[i]? with
  | some (.own _ (.lst _)) => true
  | _ => false
/-- what is handed back: a list of the def's own goes out -/
def retV (s : Sg) : RV → Option (RV × Sg)
  | .val x => some (.val x, s)
  | .frs x => some (.frs x, s)
  | .bor i => match s[i]? with
    | some (.own true x) => some (.frs x, s.set i .un)
    | _ => none
/-- the field j of the own instance in slot i -/
def setFd (s : Sg) (i c j : Nat) (v : PV) : Option Sg := match s[i]? with
  | some (.own t (.ins c' xs)) => if c' = c ∧ xs.length ≤ 100 then (if xs.length = j then some (s.set i (.own t (.ins c (xs ++ [v])))) else if j < xs.length then some (s.set i (.own t (.ins c (xs.set j v)))) else none) else none
  | _ => none
def setFds (i c : Nat) : List Nat → List PV → Sg → Option Sg
  | [], [], s => some s
  | j :: js, v :: vs, s => match setFd s i c j v with
    | some s1 => setFds i c js vs s1
    | none => none
  | _, _, _ => none
mutual
def exS (cl : Cl) (tb : Nat → Option Fd) : CS → Sg → Ss
  | .asg t e, s => toSs (evE cl tb e s) fun r s1 => match t.asg r s1 with
    | some s2 => .nx s2
    | none => .no
  | .par is es, s => toSs (evEs cl tb es s) fun rs s1 => match setAll is rs s1 with
    | some s2 => .nx s2
    | none => .no
  | .aug i op e, s => match s[i]? with
    | some (.pv (.int m)) => toSs (evE cl tb e s) fun r s1 => match r.int? with
      | some k => match op with
        | .Add => .nx (s1.set i (.pv (.int (m + k))))
        | .Sub => .nx (s1.set i (.pv (.int (m - k))))
        | _ => .no
      | none => .no
    | _ => .no
  | .set i ix e, s => toSs (evE cl tb e s) fun r s1 => match isOwnL s1 i with
    | true => toSs (evE cl tb ix s1) fun j s2 => match valOf r, j.int?, ownL s2 i with
      | some v, some k, some (t, l) => match ixP l.length k with
        | some m => .nx (s2.set i (.own t (.lst (l.set m v))))
        | none => .no
      | _, _, _ => .no
    | false => .no
  | .app i e, s => match isOwnL s i with
    | true => toSs (evE cl tb e s) fun r s1 => match valOf r, ownL s1 i with
      | some v, some (t, l) => if l.length < line then .nx (s1.set i (.own t (.lst (l ++ [v])))) else .no
      | _, _ => .no
    | false => .no
  | .exp e, s => toSs (evE cl tb e s) fun _ s1 => .nx s1
  | .ret e, s => toSs (evE cl tb e s) fun r s1 => match retV s1 r with
    | some (r, s2) => .rt r s2
    | none => .no
  | .retN, s => .rt (.val .non) s
  | .ite t a b, s => toSs (asB (evE cl tb t s)) fun c s1 => if c then exSs cl tb a s1 else exSs cl tb b s1
  | .whl t b, s => whGo (fun s => asB (evE cl tb t s)) (exSs cl tb b) fuel s
  | .fro tg k src b, s => toSs (evEs cl tb src s) fun rs s1 => match valsOf rs with
    | some l => match itV k l with
      | some xs => frGo tg (exSs cl tb b) xs s1
      | none => .no
    | none => .no
  | .brk, s => .bk s
  | .cnt, s => .ct s
  | .pas, s => .nx s
  | .ded, _ => .no
  | .rse c k, s => match k with
    | .txt => .er ⟨c, []⟩ s
    | .ini g f e => toSs (evE cl tb e s) fun r s1 => match valOf r with
      | some x => match cl g [.un, .pv x] with
        | .ok _ _ => .er ⟨c, [(f, x)]⟩ s1
        | _ => .no
      | none => .no
  | .stf i c j e, s => toSs (evE cl tb e s) fun r s1 => match valOf r with
    | some v => match setFd s1 i c j v with
      | some s2 => .nx s2
      | none => .no
    | none => .no
  | .stp i c js e, s => toSs (evE cl tb e s) fun r s1 => match r with
    | .val (.tup vs) => match setFds i c js vs s1 with
      | some s2 => .nx s2
      | none => .no
    | _ => .no
  | .asl i hs, s => if i < s.length then .nx (s.set i (.lam hs)) else .no
def exSs (cl : Cl) (tb : Nat → Option Fd) : List CS → Sg → Ss
  | [], s => .nx s
  | c :: cs, s => match exS cl tb c s with
    | .nx s1 => exSs cl tb cs s1
    | r => r
end
/-- a slot without lambdas -/
def noLam : Slot → Slot
  | .lam _ => .un
  | x => x
/-- the arguments' slots behind a call -/
def outs (mp : List Nat) (s : Sg) : Nat → Sg → Sg
  | _, [] => []
  | k, .pv x :: as => .pv x :: outs mp s (k + 1) as
  | k, .own _ _ :: as => (if mp.contains k then noLam ((s[k]?).getD .un) else .un) :: outs mp s (k + 1) as
  | k, .un :: as => .un :: outs mp s (k + 1) as
  | k, .lam _ :: as => .un :: outs mp s (k + 1) as
def runF (tb : Nat → Option Fd) : Nat → Cl
  | 0, _, _ => .no
  | n + 1, g, as => match tb g with
    | none => .no
    | some d => if as.length = d.np then
        match exSs (runF tb n) tb d.body (as ++ List.replicate (d.N.length - d.np) .un) with
        | .nx s => .ok (.val .non) (outs d.mp s 0 as)
        | .rt r s => if isBor r then .no else .ok r (outs d.mp s 0 as)
        | .er x s => .er x (outs d.mp s 0 as)
        | _ => .no
      else .no
end Mp

/-! MpRep: how the trees lie in the layer's heap. -/
namespace Mp
open PySem PySem.Spec PyProof.Rows L2

/-- what is fixed through a law: the text, the written part, the table of defs -/
structure Ctx where
  P : Program
  w : World
  K : PySem.W.Frag
  mg : Str → Option Value
  base : Heap
  tb : Nat → Option Fd
  gv : Nat → Option V
  xc : Nat → Option Value
  ts : List (Addr × Str)
  ic : Nat → Option (Addr × List Str)
  lk : Scope → List Str → Nat → Arguments → Expr → Scope → Prop
abbrev As := Addr → Prop

/-- a list that nobody writes: told by its object, or the written part's -/
def FrzL (K : PySem.W.Frag) (H : Hp) (a : Addr) (xs : List V) : Prop :=
  (∃ o, H a = some (.frz o (.lst xs))) ∨ ∃ (o : Obj) (its : Array Value) (n : Nat), K.lookup a = some o ∧ o.cls = .type "list" ∧ o.dict = none ∧ o.data = .seq its n ∧ its.size ≤ sizeLine ∧ Vals xs its.toList
/-- an instance's fields, by the class's names -/
def Flds (names : List Str) (fv : List (Str × V)) (vs : List V) : Prop := (∀ (i : Nat) (f : Str) (v : V), names[i]? = some f → vs[i]? = some v → fv.lookup f = some v) ∧ fv.length ≤ vs.length
mutual
/-- the tree x lies at v, away from z -/
inductive Rep (C : Ctx) (z : As) (H : Hp) : PV → V → Prop
  | non : Rep C z H .non .non
  | bl (b : Bool) : Rep C z H (.bl b) (.bl b)
  | int (i : Int) : Rep C z H (.int i) (.int i)
  | str (s : Str) : Rep C z H (.str s) (.str s)
  | ty (n : String) : Rep C z H (.ty n) (.ty n)
  | fn {g : Nat} {v : V} : C.gv g = some v → Rep C z H (.fn g) v
  | tup {a : Addr} {xs : List PV} {vs : List V} : SqT C.K H a vs → RepL C z H xs vs → Rep C z H (.tup xs) (.ref a)
  | lst {a : Addr} {xs : List PV} {vs : List V} : H a = some (.lst vs) → ¬ z a → RepL C z H xs vs → Rep C z H (.lst xs) (.ref a)
  | frz {a : Addr} {xs : List PV} {vs : List V} : FrzL C.K H a vs → RepL C z H xs vs → Rep C z H (.frz xs) (.ref a)
  | dct {a : Addr} {o : Obj} {ks xs : List PV} {l : List Key} {vs : List V} : H a = some (.frz o (.dK (l.zip vs))) → keysOf ks = some l → l.length = vs.length → RepL C z H xs vs → Rep C z H (.dct ks xs) (.ref a)
  | ins {a A dx : Addr} {c : Nat} {names : List Str} {fv : List (Str × V)} {xs : List PV} {vs : List V} : C.ic c = some (A, names) → H a = some (.ins A dx fv) → H dx = some (.own a) → ¬ z a → Flds names fv vs → RepL C z H xs vs → Rep C z H (.ins c xs) (.ref a)
inductive RepL (C : Ctx) (z : As) (H : Hp) : List PV → List V → Prop
  | nil : RepL C z H [] []
  | cons {x : PV} {v : V} {xs : List PV} {vs : List V} : Rep C z H x v → RepL C z H xs vs → RepL C z H (x :: xs) (v :: vs)
end
/-- .. where the outermost list may be in z -/
inductive Top (C : Ctx) (z : As) (H : Hp) : PV → V → Prop
  | of {x : PV} {v : V} : Rep C z H x v → Top C z H x v
  | lst {a : Addr} {xs : List PV} {vs : List V} : H a = some (.lst vs) → RepL C z H xs vs → Top C z H (.lst xs) (.ref a)
  | dct {a : Addr} {ks xs : List PV} {l : List Key} {vs : List V} : H a = some (.dK (l.zip vs)) → keysOf ks = some l → l.length = vs.length → RepL C z H xs vs → Top C z H (.dct ks xs) (.ref a)
  | ins {a A dx : Addr} {c : Nat} {names : List Str} {fv : List (Str × V)} {xs : List PV} {vs : List V} : C.ic c = some (A, names) → H a = some (.ins A dx fv) → H dx = some (.own a) → Flds names fv vs → RepL C z H xs vs → Top C z H (.ins c xs) (.ref a)

section
variable {C : Ctx} {z z' z'' : As} {H H' H'' : Hp}
theorem RepL.length : ∀ {xs : List PV} {vs : List V}, RepL C z H xs vs → xs.length = vs.length
  | [], _, h => by cases h; rfl
  | x :: xs, _, h => by cases h with | cons a b => rw [List.length_cons, List.length_cons, b.length]
theorem RepL.get : ∀ {xs : List PV} {vs : List V} {i : Nat} {x : PV}, RepL C z H xs vs → xs[i]? = some x → ∃ v, vs[i]? = some v ∧ Rep C z H x v
  | [], _, _, _, _, e => by simp at e
  | _ :: _, _, 0, _, h, e => by cases h with | cons a b => simp at e; subst e; exact ⟨_, rfl, a⟩
  | _ :: xs, _, i + 1, x, h, e => by
    cases h with
    | cons a b =>
      obtain ⟨v, h1, h2⟩ := RepL.get (i := i) b (by simpa using e)
      exact ⟨v, by simpa using h1, h2⟩
theorem RepL.get' : ∀ {xs : List PV} {vs : List V} {i : Nat} {v : V}, RepL C z H xs vs → vs[i]? = some v → ∃ x, xs[i]? = some x ∧ Rep C z H x v
  | [], _, _, _, h, e => by cases h; simp at e
  | _ :: _, _, 0, _, h, e => by cases h with | cons a b => simp at e; subst e; exact ⟨_, rfl, a⟩
  | _ :: xs, _, i + 1, x, h, e => by
    cases h with
    | cons a b =>
      obtain ⟨v, h1, h2⟩ := RepL.get' (i := i) b (by simpa using e)
      exact ⟨v, by simpa using h1, h2⟩
theorem RepL.append : ∀ {xs ys : List PV} {vs ws : List V}, RepL C z H xs vs → RepL C z H ys ws → RepL C z H (xs ++ ys) (vs ++ ws)
  | [], _, _, _, h, q => by cases h; exact q
  | _ :: _, _, _, _, h, q => by cases h with | cons a b => exact .cons a (RepL.append b q)
theorem RepL.take : ∀ {xs : List PV} {vs : List V} (n : Nat), RepL C z H xs vs → RepL C z H (xs.take n) (vs.take n)
  | _, _, 0, _ => .nil
  | [], _, _ + 1, h => by cases h; exact .nil
  | _ :: _, _, n + 1, h => by cases h with | cons a b => exact .cons a (RepL.take n b)
theorem RepL.drop : ∀ {xs : List PV} {vs : List V} (n : Nat), RepL C z H xs vs → RepL C z H (xs.drop n) (vs.drop n)
  | _, _, 0, r => r
  | [], _, _ + 1, h => by cases h; exact .nil
  | _ :: _, _, n + 1, h => by cases h with | cons a b => exact RepL.drop n b
theorem RepL.set : ∀ {xs : List PV} {vs : List V} {x : PV} {v : V} (i : Nat), Rep C z H x v → RepL C z H xs vs → RepL C z H (xs.set i x) (vs.set i v)
  | [], _, _, _, _, _, h => by cases h; exact .nil
  | _ :: _, _, _, _, 0, r, h => by cases h with | cons a b => exact .cons r b
  | _ :: _, _, _, _, i + 1, r, h => by cases h with | cons a b => exact .cons a (RepL.set i r b)
theorem RepL.rep {xs : List PV} {vs : List V} (h : RepL C z H xs vs) : ∀ n : Nat, RepL C z H (List.replicate n xs).flatten (List.replicate n vs).flatten
  | 0 => .nil
  | n + 1 => by
    rw [List.replicate_succ, List.replicate_succ, List.flatten_cons, List.flatten_cons]
    exact h.append (h.rep n)

/-- an object that may be written -/
def MutO : HO → Prop
  | .lst _ => True
  | .dK _ => True
  | .ins _ _ _ => True
  | _ => False
/-- no code object's table -/
def NT : HO → Prop
  | .tbl _ => False
  | _ => True
theorem NT.ne {o : HO} (h : NT o) : ∀ ps, o ≠ .tbl ps := fun ps e => by rw [e] at h; exact h
theorem tabs_upd {T : List (Addr × Str)} {H : Hp} {D : Addr} {o o' : HO} (t : LamX.Tabs T H) (e : H D = some o) (h : MutO o) : LamX.Tabs T (upd H D o') := by
  intro p hp
  obtain ⟨ps, h1, h2, h3⟩ := t p hp
  have n1 : p.1 ≠ D := fun q => by rw [q, e] at h1; cases h1; exact h
  refine ⟨ps, by rw [upd_ne n1]; exact h1, h2, fun pos cv hc => ?_⟩
  obtain ⟨c, e1, e2⟩ := h3 pos cv hc
  have n2 : c ≠ D := fun q => by
    rw [q, e] at e2
    have e3 := Option.some.inj e2
    unfold LamX.CodeO at e3
    rw [e3] at h
    exact h
  exact ⟨c, e1, by rw [upd_ne n2]; exact e2⟩
theorem MutO.nt {o : HO} (h : MutO o) : NT o := by cases o <;> first | exact h.elim | exact True.intro
/-- what may change: M, within z, all lists; what is private behind: z' -/
structure Stp (M z : As) (H : Hp) (z' : As) (H' : Hp) : Prop where
  keep : ∀ a o, H a = some o → ¬ M a → NT o → H' a = some o
  there : ∀ a, H' a = none → H a = none
  priv : ∀ a, z a → ¬ M a → z' a
  new : ∀ a, z' a → z a ∨ H a = none
/-- M is well chosen -/
structure MOk (M z : As) (H : Hp) : Prop where
  sub : ∀ a, M a → z a
  wrt : ∀ a, M a → ∃ o, H a = some o ∧ MutO o
theorem Stp.refl (M z : As) (H : Hp) : Stp M z H z H := ⟨fun _ _ e _ _ => e, fun _ e => e, fun _ e _ => e, fun _ e => .inl e⟩
theorem Stp.trans {M M' : As} (a : Stp M z H z' H') (b : Stp M' z' H' z'' H'') (m : ∀ x, M' x → M x ∨ H x = none) (zt : ∀ x, z x → H x ≠ none) : Stp M z H z'' H'' where
  keep := fun x o e n nt => b.keep x o (a.keep x o e n nt) (fun q => by
    rcases m x q with q | q
    · exact n q
    · rw [q] at e; cases e) nt
  there := fun x e => a.there x (b.there x e)
  priv := fun x e n => by
    by_cases q : M' x
    · rcases m x q with q2 | q2
      · exact absurd q2 n
      · exact absurd q2 (zt x e)
    · exact b.priv x (a.priv x e n) q
  new := fun x e => by
    rcases b.new x e with q | q
    · exact a.new x q
    · exact .inr (a.there x q)

theorem SqT.keep {K : PySem.W.Frag} {M : As} (k : ∀ a o, H a = some o → ¬ M a → NT o → H' a = some o) (mm : ∀ a, M a → ∃ o, H a = some o ∧ MutO o) {a : Addr} {vs : List V} (s : SqT K H a vs) : SqT K H' a vs := by
  rcases s with (s | ⟨o, s⟩) | s
  · refine .inl (.inl (k _ _ s (fun q => ?_) True.intro))
    obtain ⟨o, e, m⟩ := mm _ q
    rw [s] at e; cases e; exact m
  · refine .inl (.inr ⟨o, k _ _ s (fun q => ?_) True.intro⟩)
    obtain ⟨o, e, m⟩ := mm _ q
    rw [s] at e; cases e; exact m
  · exact .inr s
theorem FrzL.keep {K : PySem.W.Frag} {M : As} (k : ∀ a o, H a = some o → ¬ M a → NT o → H' a = some o) (mm : ∀ a, M a → ∃ o, H a = some o ∧ MutO o) {a : Addr} {vs : List V} (s : FrzL K H a vs) : FrzL K H' a vs := by
  rcases s with ⟨o, s⟩ | s
  · refine .inl ⟨o, k _ _ s (fun q => ?_) True.intro⟩
    obtain ⟨o, e, m⟩ := mm _ q
    rw [s] at e; cases e; exact m
  · exact .inr s
theorem FrzL.sql {K : PySem.W.Frag} {a : Addr} {vs : List V} (s : FrzL K H a vs) : SqL K H a vs := by
  rcases s with s | s
  · exact .inl (.inr s)
  · exact .inr s
mutual
/-- what lies away from z stays -/
theorem Rep.keep {M : As} (k : ∀ a o, H a = some o → ¬ M a → NT o → H' a = some o) (m : MOk M z H) (n : ∀ a, z' a → z a ∨ H a = none) : ∀ (x : PV) (v : V), Rep C z H x v → Rep C z' H' x v
  | .non, _, h => by cases h; exact .non
  | .bl _, _, h => by cases h; exact .bl _
  | .int _, _, h => by cases h; exact .int _
  | .str _, _, h => by cases h; exact .str _
  | .ty _, _, h => by cases h; exact .ty _
  | .fn _, _, h => by cases h with | fn e => exact .fn e
  | .tup xs, _, h => by cases h with | tup s r => exact .tup (SqT.keep k m.wrt s) (RepL.keep k m n xs _ r)
  | .frz xs, _, h => by cases h with | frz s r => exact .frz (FrzL.keep k m.wrt s) (RepL.keep k m n xs _ r)
  | .lst xs, _, h => by
    cases h with
    | lst e nz r =>
      refine .lst (k _ _ e (fun q => nz (m.sub _ q)) True.intro) (fun q => ?_) (RepL.keep k m n xs _ r)
      rcases n _ q with q | q
      · exact nz q
      · rw [e] at q; cases q
  | .dct ks xs, _, h => by
    cases h with
    | dct e kk hl r =>
      refine .dct (k _ _ e (fun q => ?_) True.intro) kk hl (RepL.keep k m n xs _ r)
      obtain ⟨o, e2, m2⟩ := m.wrt _ q
      rw [e] at e2; cases e2; exact m2
  | .ins c xs, _, h => by
    cases h with
    | ins ec e eo nz kk r =>
      refine .ins ec (k _ _ e (fun q => nz (m.sub _ q)) True.intro) (k _ _ eo (fun q => ?_) True.intro) (fun q => ?_) kk (RepL.keep k m n xs _ r)
      · obtain ⟨o, e2, m2⟩ := m.wrt _ q
        rw [eo] at e2; cases e2; exact m2
      · rcases n _ q with q | q
        · exact nz q
        · rw [e] at q; cases q
  | .cas _ _, _, h => by cases h
  | .dic _, _, h => by cases h
theorem RepL.keep {M : As} (k : ∀ a o, H a = some o → ¬ M a → NT o → H' a = some o) (m : MOk M z H) (n : ∀ a, z' a → z a ∨ H a = none) : ∀ (xs : List PV) (vs : List V), RepL C z H xs vs → RepL C z' H' xs vs
  | [], _, h => by cases h; exact .nil
  | x :: xs, _, h => by cases h with | cons a b => exact .cons (Rep.keep k m n x _ a) (RepL.keep k m n xs _ b)
end
theorem Rep.step {M : As} {x : PV} {v : V} (h : Rep C z H x v) (s : Stp M z H z' H') (m : MOk M z H) : Rep C z' H' x v := Rep.keep s.keep m s.new x v h
theorem RepL.step {M : As} {x : List PV} {v : List V} (h : RepL C z H x v) (s : Stp M z H z' H') (m : MOk M z H) : RepL C z' H' x v := RepL.keep s.keep m s.new x v h
theorem Top.step {M : As} {x : PV} {v : V} (h : Top C z H x v) (s : Stp M z H z' H') (m : MOk M z H) (hv : ∀ a, v = .ref a → ¬ M a) : Top C z' H' x v := by
  cases h with
  | of h => exact .of (h.step s m)
  | lst e r => exact .lst (s.keep _ _ e (hv _ rfl) True.intro) (r.step s m)
  | dct e k hl r => exact .dct (s.keep _ _ e (hv _ rfl) True.intro) k hl (r.step s m)
  | ins ec e eo k r =>
    refine .ins ec (s.keep _ _ e (hv _ rfl) True.intro) (s.keep _ _ eo (fun q => ?_) True.intro) k (r.step s m)
    obtain ⟨o, e2, m2⟩ := m.wrt _ q
    rw [eo] at e2; cases e2; exact m2
/-- less is private -/
theorem Stp.drop {M : As} (a : Addr) (s : Stp M z H z' H') (h : ¬ z a ∨ M a) : Stp M z H (fun b => z' b ∧ b ≠ a) H' :=
  ⟨s.keep, s.there, fun b e n => ⟨s.priv b e n, fun q => by
    subst q
    rcases h with h | h
    · exact h e
    · exact n h⟩, fun b e => s.new b e.1⟩
theorem Rep.less {x : PV} {v : V} (h : Rep C z H x v) (hz : ∀ a, z' a → z a) : Rep C z' H x v := Rep.keep (M := fun _ => False) (fun _ _ e _ _ => e) ⟨fun _ q => q.elim, fun _ q => q.elim⟩ (fun a e => .inl (hz a e)) x v h
theorem RepL.less {x : List PV} {v : List V} (h : RepL C z H x v) (hz : ∀ a, z' a → z a) : RepL C z' H x v := RepL.keep (M := fun _ => False) (fun _ _ e _ _ => e) ⟨fun _ q => q.elim, fun _ q => q.elim⟩ (fun a e => .inl (hz a e)) x v h
theorem Top.less {x : PV} {v : V} (h : Top C z H x v) (hz : ∀ a, z' a → z a) : Top C z' H x v := by
  cases h with
  | of h => exact .of (h.less hz)
  | lst e r => exact .lst e (r.less hz)
  | dct e k hl r => exact .dct e k hl (r.less hz)
  | ins ec e eo k r => exact .ins ec e eo k (r.less hz)
/-- .. that is no more private itself -/
theorem Top.rep {x : PV} {v : V} (h : Top C z H x v) (hm : x.mut = false) (hz : ∀ a, z' a → z a) (n : ∀ a, v = .ref a → ¬ z' a) : Rep C z' H x v := by
  cases h with
  | of h => exact h.less hz
  | lst e r => exact .lst e (n _ rfl) (r.less hz)
  | dct e k hl r => cases hm
  | ins ec e eo k r => exact .ins ec e eo (n _ rfl) k (r.less hz)
theorem Top.keep {x : PV} {v : V} (h : Top C z H x v) (k : ∀ a o, H a = some o → H' a = some o) (n : ∀ a, z' a → z a ∨ H a = none) : Top C z' H' x v := by
  have rl : ∀ {xs : List PV} {vs : List V}, RepL C z H xs vs → RepL C z' H' xs vs := fun r => RepL.keep (M := fun _ => False) (fun a o e _ _ => k a o e) ⟨fun _ q => q.elim, fun _ q => q.elim⟩ n _ _ r
  cases h with
  | of h => exact .of (Rep.keep (M := fun _ => False) (fun a o e _ _ => k a o e) ⟨fun _ q => q.elim, fun _ q => q.elim⟩ n _ _ h)
  | lst e r => exact .lst (k _ _ e) (rl r)
  | dct e kk hl r => exact .dct (k _ _ e) kk hl (rl r)
  | ins ec e eo kk r => exact .ins ec (k _ _ e) (k _ _ eo) kk (rl r)

end

/-! ### slots -/
/-- where lambdas are made: scope, names, cells, their qualified name -/
structure LPl where
  sc : Scope
  N : List Str
  cells : List (Str × Addr)
  qual : Str
/-- an activation: the mutable parameters' slots and addresses, the heap at its entry -/
structure Act where
  mp : List (Nat × Addr)
  H0 : Hp
  lp : Option LPl
/-- no lambdas -/
abbrev nl : Option LPl := none
/-- a closure that stands still: its object -/
abbrev cloO (l : LPl) (params : Arguments) (body : Expr) (scope : Scope) (pm : Value) (c : Addr) (ctv : Value) : Obj := PySem.W.kla_obj "<lambda>" l.qual params body scope (cloFrom l.cells scope.names []) pm c ctv
structure CloAt (C : Ctx) (l : LPl) (H : Hp) (h : Nat) (f : Addr) : Prop where
  ex : ∃ (c : Addr) (params : Arguments) (body : Expr) (scope : Scope) (pm ctv : Value), H f = some (.ext fun g => g.get? f = some (cloO l params body scope pm c ctv)) ∧ H c = some (LamX.CodeO c l.qual) ∧ C.lk l.sc l.N h params body scope
/-- closures that stand still, and their code -/
def LamL (C : Ctx) (L : Act) (H : Hp) : List Nat → List V → Prop
  | [], [] => True
  | h :: hs, v :: vs => (∃ (l : LPl) (f : Addr), v = .ref f ∧ L.lp = some l ∧ CloAt C l H h f) ∧ LamL C L H hs vs
  | _, _ => False
def Own (p : Sg) (σ : L2.St) (a : Addr) : Prop := ∃ (i : Nat) (t : Bool) (x : PV), p[i]? = some (.own t x) ∧ σ[i]? = some (some (.ref a))
/-- a lambdas' list in a slot -/
def LmS (C : Ctx) (L : Act) (z : As) (H : Hp) (σ : L2.St) (i : Nat) (hs : List Nat) : Prop := ∃ (a : Addr) (vs : List V), σ[i]? = some (some (.ref a)) ∧ H a = some (.lst vs) ∧ ¬ z a ∧ LamL C L H hs vs
structure SRel (C : Ctx) (L : Act) (z : As) (H : Hp) (p : Sg) (σ : L2.St) : Prop where
  len : p.length = σ.length
  zt : ∀ a, z a → H a ≠ none
  h0 : ∀ a, H a = none → L.H0 a = none
  pv : ∀ (i : Nat) (x : PV), p[i]? = some (.pv x) → ∃ v, σ[i]? = some (some v) ∧ Rep C z H x v
  ow : ∀ (i : Nat) (t : Bool) (x : PV), p[i]? = some (.own t x) → ∃ (a : Addr) (o : HO), σ[i]? = some (some (V.ref a)) ∧ z a ∧ H a = some o ∧ MutO o ∧ Top C z H x (.ref a) ∧ (t = true → L.H0 a = none)
  dj : ∀ (i j : Nat) (t u : Bool) (x y : PV) (a : Addr), p[i]? = some (.own t x) → p[j]? = some (.own u y) → σ[i]? = some (some (.ref a)) → σ[j]? = some (some (.ref a)) → i = j
  mp : ∀ q ∈ L.mp, σ[q.1]? = some (some (.ref q.2))
  tb : LamX.Tabs C.ts H
  lm : ∀ (i : Nat) (hs : List Nat), p[i]? = some (.lam hs) → LmS C L z H σ i hs
section
variable {C : Ctx} {L : Act} {z z' z'' : As} {H H' H'' : Hp} {p p' p'' : Sg} {σ σ' σ'' : L2.St}
theorem CloAt.up {l : LPl} {M : As} {h : Nat} {f : Addr} (k : ∀ a o, H a = some o → ¬ M a → NT o → H' a = some o) (m : ∀ a, M a → ∃ o, H a = some o ∧ MutO o) (e : CloAt C l H h f) : CloAt C l H' h f := by
  obtain ⟨c, params, body, scope, pm, ctv, e1, e2, e3⟩ := e.ex
  have nm : ∀ {a : Addr} {φ : Heap → Prop}, H a = some (.ext φ) → H' a = some (.ext φ) := fun {a φ} ea => k _ _ ea (fun q => by
    obtain ⟨o, e, mo⟩ := m _ q
    rw [ea] at e; cases e; exact mo) True.intro
  exact ⟨c, params, body, scope, pm, ctv, nm e1, nm e2, e3⟩
theorem LamL.up {L L' : Act} {M : As} (k : ∀ a o, H a = some o → ¬ M a → NT o → H' a = some o) (m : ∀ a, M a → ∃ o, H a = some o ∧ MutO o) (hl : L'.lp = L.lp) : ∀ {hs : List Nat} {vs : List V}, LamL C L H hs vs → LamL C L' H' hs vs
  | [], [], _ => True.intro
  | [], _ :: _, h => h.elim
  | _ :: _, [], h => h.elim
  | h :: hs, v :: vs, ⟨⟨l, f, e, e1, e2⟩, r⟩ => ⟨⟨l, f, e, by rw [hl]; exact e1, e2.up k m⟩, LamL.up k m hl r⟩
theorem SRel.mok (s : SRel C L z H p σ) : MOk (Own p σ) z H := ⟨fun a ⟨i, t, x, h1, h2⟩ => by
    obtain ⟨b, o, e, hz, _⟩ := s.ow i t x h1
    rw [h2] at e; cases e; exact hz, fun a ⟨i, t, x, h1, h2⟩ => by
    obtain ⟨b, o, e, hz, ho, m, _⟩ := s.ow i t x h1
    rw [h2] at e; cases e; exact ⟨o, ho, m⟩⟩
/-- a lambdas' list at a later state -/
theorem LmS.keep {L' : Act} {M : As} {i : Nat} {hs : List Nat} (e : LmS C L z H σ i hs) (k : ∀ a o, H a = some o → ¬ M a → NT o → H' a = some o) (m : MOk M z H) (n : ∀ a, z' a → z a ∨ H a = none) (hl : L'.lp = L.lp) : LmS C L' z' H' σ i hs := by
  obtain ⟨a, vs, e1, e2, e3, e4⟩ := e
  refine ⟨a, vs, e1, k _ _ e2 (fun q => e3 (m.sub _ q)) True.intro, fun q => ?_, e4.up k m.wrt hl⟩
  rcases n _ q with q | q
  · exact e3 q
  · rw [e2] at q; cases q
theorem LmS.step {M : As} {i : Nat} {hs : List Nat} (e : LmS C L z H σ i hs) (s : Stp M z H z' H') (m : MOk M z H) : LmS C L z' H' σ i hs := e.keep s.keep m s.new rfl
theorem LmS.gen {i : Nat} {hs : List Nat} (e : LmS C L z H σ i hs) (k : ∀ a o, H a = some o → H' a = some o) (n : ∀ a, z' a → z a ∨ H a = none) : LmS C L z' H' σ i hs :=
  e.keep (M := fun _ => False) (fun a o e _ _ => k a o e) ⟨fun _ q => q.elim, fun _ q => q.elim⟩ n rfl
theorem LmS.less {i : Nat} {hs : List Nat} (e : LmS C L z H σ i hs) (hz : ∀ a, z' a → z a) : LmS C L z' H σ i hs := e.gen (fun _ _ e => e) fun a q => .inl (hz a q)
theorem LmS.at {i : Nat} {hs : List Nat} (e : LmS C L z H σ i hs) (h : σ'[i]? = σ[i]?) : LmS C L z H σ' i hs := by
  obtain ⟨a, vs, e1, e2⟩ := e
  exact ⟨a, vs, by rw [h]; exact e1, e2⟩
theorem LmS.any {L' : Act} {σ' : L2.St} {i j : Nat} {hs : List Nat} (e : LmS C L z H σ i hs) (hl : L.lp = nl) (h : σ'[j]? = σ[i]?) : LmS C L' z H σ' j hs := by
  obtain ⟨a, vs, e1, e2, e3, e4⟩ := e
  refine ⟨a, vs, by rw [h]; exact e1, e2, e3, ?_⟩
  cases hs with
  | nil => cases vs with
    | nil => exact True.intro
    | cons _ _ => exact e4.elim
  | cons h0 hs => cases vs with
    | nil => exact e4.elim
    | cons v vs =>
      obtain ⟨⟨_, _, _, q, _⟩, _⟩ := e4
      rw [hl] at q; cases q
theorem lam_set {i j : Nat} {sl : Slot} {hs : List Nat} (n : ∀ l, sl ≠ .lam l) (q : (p.set i sl)[j]? = some (.lam hs)) : j ≠ i ∧ p[j]? = some (.lam hs) := by
  by_cases hj : i = j
  · subst hj
    rw [List.getElem?_set] at q
    split at q
    · split at q
      · cases q; exact absurd rfl (n _)
      · cases q
    · rename_i h; exact absurd rfl h
  · rw [List.getElem?_set_ne hj] at q; exact ⟨Ne.symm hj, q⟩
/-- from one state to a later one -/
structure Go (C : Ctx) (L : Act) (z : As) (H : Hp) (p : Sg) (σ : L2.St) (z' : As) (H' : Hp) (p' : Sg) (σ' : L2.St) : Prop where
  rel : SRel C L z' H' p' σ'
  stp : Stp (Own p σ) z H z' H'
  own : ∀ a, Own p' σ' a → Own p σ a ∨ H a = none
theorem Go.refl (s : SRel C L z H p σ) : Go C L z H p σ z H p σ := ⟨s, .refl _ _ _, fun _ e => .inl e⟩
theorem Go.trans (s : SRel C L z H p σ) (a : Go C L z H p σ z' H' p' σ') (b : Go C L z' H' p' σ' z'' H'' p'' σ'') : Go C L z H p σ z'' H'' p'' σ'' :=
  ⟨b.rel, a.stp.trans b.stp a.own s.zt, fun x e => by
    rcases b.own x e with q | q
    · exact a.own x q
    · exact .inr (a.stp.there x q)⟩
/-- a value's place now; H0: the heap where its making began -/
inductive RRep (C : Ctx) (z : As) (H0 H : Hp) (p : Sg) (σ : L2.St) : RV → V → Prop
  | val {x : PV} {v : V} : Rep C z H x v → RRep C z H0 H p σ (.val x) v
  | frs {x : PV} {a : Addr} {o : HO} : H0 a = none → z a → ¬ Own p σ a → H a = some o → MutO o → Top C z H x (.ref a) → RRep C z H0 H p σ (.frs x) (.ref a)
  | bor {i : Nat} {v : V} : σ[i]? = some (some v) → RRep C z H0 H p σ (.bor i) v
end
end Mp

/-! MpA: readings by the interpreter; how states and values are carried on. -/
namespace Mp
open PySem PySem.Spec PyProof.Rows L2

theorem PE.imp {X : Cx} {e : Expr} {t t' : TE} (h : PE X e t) (w : ∀ σ H Q, t' σ H Q → t σ H Q) : PE X e t' := ⟨fun pins s σ H Q I q => h.run pins s σ H Q I (w σ H Q q)⟩
theorem PT.imp {X : Cx} {e : Expr} {t t' : TT} (h : PT X e t) (w : ∀ σ H Q, t' σ H Q → t σ H Q) : PT X e t' := ⟨fun pins s σ H Q I q => h.run pins s σ H Q I (w σ H Q q)⟩
theorem PA.imp {X : Cx} {e : List Expr} {t t' : TA} (h : PA X e t) (w : ∀ σ H Q, t' σ H Q → t σ H Q) : PA X e t' := ⟨fun pos pins s σ H Q I q => h.run pos pins s σ H Q I (w σ H Q q)⟩
theorem PS.imp {X : Cx} {e : Stmt} {t t' : TS} (h : PS X e t) (w : ∀ D σ H, t' D σ H → t D σ H) : PS X e t' := ⟨fun pins s σ H D I q => h.run pins s σ H D I (w D σ H q)⟩
theorem PSs.imp {X : Cx} {e : List Stmt} {t t' : TS} (h : PSs X e t) (w : ∀ D σ H, t' D σ H → t D σ H) : PSs X e t' := ⟨fun pins s σ H D I q => h.run pins s σ H D I (w D σ H q)⟩
theorem PI.imp {X : Cx} {tg e : Expr} {t t' : TI} (h : PI X tg e t) (w : ∀ σ H R, t' σ H R → t σ H R) : PI X tg e t' := ⟨fun pins s σ H R I q => h.run pins s σ H R I (w σ H R q)⟩
theorem PG.imp {X : Cx} {tg : Expr} {t t' : TG} (h : PG X tg t) (w : ∀ v σ H Q, t' v σ H Q → t v σ H Q) : PG X tg t' := ⟨fun pins s σ H v u Q I r q => h.run pins s σ H v u Q I r (w v σ H Q q)⟩

/-- how an exception lies behind: its class, its own dict -/
def XRep (C : Ctx) (z : As) (H : Hp) (x : Xc) (cls : Value) (d : Option Addr) : Prop :=
  C.xc x.c = some cls ∧ (x.fs ≠ [] → ∃ dx fs, d = some dx ∧ H dx = some (.xd fs) ∧ fs.map (·.1) = x.fs.map (·.1) ∧ RepL C z H (x.fs.map (·.2)) (fs.map (·.2)))
section
variable (C : Ctx) (L : Act) (W : WX)
def OutE {α β : Type} (RR : As → Hp → Hp → Sg → L2.St → α → β → Prop) (σ : L2.St) (z : As) (H : Hp) (p : Sg) (Q : β → Hp → Prop) : Rs α → Prop
  | .ok r p' => ∀ v H' z', Go C L z H p σ z' H' p' σ → RR z' H H' p' σ r v → Q v H'
  | .er x p' => ∀ cls d H' z', Go C L z H p σ z' H' p' σ → XRep C z' H' x cls d → W cls d σ H'
  | .no => False
def tOf (f : Sg → Rs RV) : TE := fun σ H Q => ∃ z p, SRel C L z H p σ ∧ OutE C L W (RRep C) σ z H p Q (f p)
/-- where an unshared list among the values stands -/
def FrsIn (rs : List RV) (vs : List V) (a : Addr) : Prop := ∃ (i : Nat) (x : PV), rs[i]? = some (.frs x) ∧ vs[i]? = some (.ref a)
inductive RRepL (z : As) (H0 H : Hp) (p : Sg) (σ : L2.St) : List RV → List V → Prop
  | nil : RRepL z H0 H p σ [] []
  | cons {r : RV} {v : V} {rs : List RV} {vs : List V} : RRep C z H0 H p σ r v → RRepL z H0 H p σ rs vs → (∀ x a, r = .frs x → v = .ref a → ¬ FrsIn rs vs a) → RRepL z H0 H p σ (r :: rs) (v :: vs)
def tOfL (f : Sg → Rs (List RV)) : TA := fun σ H Q => ∃ z p, SRel C L z H p σ ∧ OutE C L W (RRepL C) σ z H p Q (f p)
def tOfB (f : Sg → Rs Bool) : TT := fun σ H Q => ∃ z p, SRel C L z H p σ ∧ OutE C L W (fun _ _ _ _ _ (r : Bool) (v : Bool) => r = v) σ z H p Q (f p)
end
section
variable {C : Ctx} {L : Act} {W : WX} {z z' z'' : As} {H H' H'' : Hp} {p p' p'' : Sg} {σ σ' σ'' : L2.St}
theorem OutE.bind {α β γ δ : Type} {RR : As → Hp → Hp → Sg → L2.St → α → β → Prop} {RR2 : As → Hp → Hp → Sg → L2.St → γ → δ → Prop} {Q : δ → Hp → Prop} {Q1 : β → Hp → Prop} {r : Rs α} {f : α → Sg → Rs γ} (s : SRel C L z H p σ)
    (h : OutE C L W RR2 σ z H p Q (r.bind f))
    (k : ∀ a p1 v H1 z1, r = .ok a p1 → Go C L z H p σ z1 H1 p1 σ → RR z1 H H1 p1 σ a v → OutE C L W RR2 σ z H p Q (f a p1) → Q1 v H1) : OutE C L W RR σ z H p Q1 r := by
  cases r with
  | ok a p1 => exact fun v H1 z1 g rr => k a p1 v H1 z1 rfl g rr h
  | er x p1 => exact h
  | no => exact h
/-- going on from a later state -/
theorem OutE.later {α β : Type} {RR : As → Hp → Hp → Sg → L2.St → α → β → Prop} {Q : β → Hp → Prop} {r : Rs α} (s : SRel C L z H p σ) (g : Go C L z H p σ z' H' p' σ)
    (up : ∀ z'' H'' p'' a v, RR z'' H' H'' p'' σ a v → RR z'' H H'' p'' σ a v) (h : OutE C L W RR σ z H p Q r) : OutE C L W RR σ z' H' p' Q r := by
  cases r with
  | ok a p1 => exact fun v H1 z1 g1 rr => h v H1 z1 (g.trans s g1) (up _ _ _ _ _ rr)
  | er x p1 => exact fun cls d H1 z1 g1 rr => h cls d H1 z1 (g.trans s g1) rr
  | no => exact h
theorem RRep.up {H0 H1 : Hp} {r : RV} {v : V} (h : RRep C z H1 H p σ r v) (hh : ∀ a, H1 a = none → H0 a = none) : RRep C z H0 H p σ r v := by
  cases h with
  | val h => exact .val h
  | frs a b c d e f => exact .frs (hh _ a) b c d e f
  | bor a => exact .bor a
theorem RRepL.up {H0 H1 : Hp} {r : List RV} {v : List V} (h : RRepL C z H1 H p σ r v) (hh : ∀ a, H1 a = none → H0 a = none) : RRepL C z H0 H p σ r v := by
  induction h with
  | nil => exact .nil
  | cons a b c ih => exact .cons (a.up hh) ih c
theorem RRep.go {H0 : Hp} {r : RV} {v : V} (h : RRep C z H0 H p σ r v) (s : SRel C L z H p σ) (g : Go C L z H p σ z' H' p' σ) : RRep C z' H0 H' p' σ r v := by
  cases h with
  | val h => exact .val (h.step g.stp s.mok)
  | frs a b c d e f => exact .frs a (g.stp.priv _ b c) (fun q => by
      rcases g.own _ q with q | q
      · exact c q
      · rw [d] at q; cases q) (g.stp.keep _ _ d c e.nt) e (f.step g.stp s.mok fun a e => by cases e; exact c)
  | bor a => exact .bor a
theorem deref_top {H0 : Hp} {r : RV} {v : V} {x : PV} (s : SRel C L z H p σ) (h : RRep C z H0 H p σ r v) (e : deref p r = some x) : Top C z H x v := by
  cases h with
  | val h => cases e; exact .of h
  | frs a b c d m f => cases e; exact f
  | @bor i v hs =>
    unfold deref at e
    dsimp only at e
    cases q : p[i]? with
    | none => rw [q] at e; cases e
    | some sl =>
      rw [q] at e
      cases sl with
      | un => cases e
      | lam _ => cases e
      | pv y =>
        cases e
        obtain ⟨w, h1, h2⟩ := s.pv i _ q
        rw [hs] at h1; cases h1
        exact .of h2
      | own t y =>
        cases e
        obtain ⟨a, o, h1, _, _, _, h2, _⟩ := s.ow i _ _ q
        rw [hs] at h1; cases h1
        exact h2
/-- values that become parts -/
theorem Go.less (s : SRel C L z H p σ) (g : Go C L z H p σ z' H' p' σ) (F : Addr → Prop) (hF : ∀ a, F a → H a = none ∧ ¬ Own p' σ a) : Go C L z H p σ (fun a => z' a ∧ ¬ F a) H' p' σ where
  rel := ⟨g.rel.len, fun a e => g.rel.zt a e.1, g.rel.h0, fun i x e => by
      obtain ⟨v, h1, h2⟩ := g.rel.pv i x e
      exact ⟨v, h1, h2.less fun a q => q.1⟩, fun i t x e => by
      obtain ⟨a, o, h1, h2, h3, h4, h5, h6⟩ := g.rel.ow i t x e
      refine ⟨a, o, h1, ⟨h2, fun q => (hF a q).2 ⟨i, t, x, e, h1⟩⟩, h3, h4, ?_, h6⟩
      cases h5 with
      | of h => exact .of (h.less fun a q => q.1)
      | lst e r => exact .lst e (r.less fun a q => q.1)
      | dct e k hl r => exact .dct e k hl (r.less fun a q => q.1)
      | ins ec e eo k r => exact .ins ec e eo k (r.less fun a q => q.1), g.rel.dj, g.rel.mp, g.rel.tb, fun i hs e => (g.rel.lm i hs e).less fun a q => q.1⟩
  stp := ⟨g.stp.keep, g.stp.there, fun a e n => ⟨g.stp.priv a e n, fun q => s.zt a e (hF a q).1⟩, fun a e => g.stp.new a e.1⟩
  own := g.own
theorem frsIn_facts {rs : List RV} {vs : List V} (h : RRepL C z' H H' p' σ rs vs) : ∀ a, FrsIn rs vs a → H a = none ∧ ¬ Own p' σ a := by
  induction h with
  | nil => rintro a ⟨i, x, e, _⟩; simp at e
  | cons r rr d ih =>
    rintro a ⟨i, x, e1, e2⟩
    cases i with
    | zero =>
      simp at e1 e2
      subst e1 e2
      cases r with
      | frs q1 q2 q3 _ _ _ => exact ⟨q1, q3⟩
    | succ i => exact ih a ⟨i, x, by simpa using e1, by simpa using e2⟩
theorem valOf_frs {x y : PV} (e : valOf (.frs x) = some y) : x.mut = false ∧ x = y := by
  have e' : (if x.mut then none else some x) = some y := e
  split at e'
  · cases e'
  · rename_i h; exact ⟨by simpa using h, Option.some.inj e'⟩
theorem vals_rep {rs : List RV} {vs : List V} : ∀ {xs : List PV}, RRepL C z' H H' p' σ rs vs → valsOf rs = some xs → ∀ (F : Addr → Prop), (∀ a, FrsIn rs vs a → F a) → RepL C (fun a => z' a ∧ ¬ F a) H' xs vs := by
  intro xs h
  induction h generalizing xs with
  | nil => intro e F _; unfold valsOf at e; cases e; exact .nil
  | @cons r v rs vs hr hrs hd ih =>
    intro e F hF
    unfold valsOf at e
    cases e1 : valOf r with
    | none => rw [e1] at e; cases e
    | some x =>
      rw [e1] at e
      cases e2 : valsOf rs with
      | none => rw [e2] at e; cases e
      | some ys =>
        rw [e2] at e
        cases e
        refine .cons ?_ (ih e2 F fun a ⟨i, y, h1, h2⟩ => hF a ⟨i + 1, y, by simpa using h1, by simpa using h2⟩)
        cases hr with
        | val h => cases e1; exact h.less fun a q => q.1
        | @frs y a o q1 q2 q3 q4 q5 q6 =>
          obtain ⟨hm, rfl⟩ := valOf_frs e1
          have fa : F a := hF a ⟨0, _, rfl, rfl⟩
          cases q6 with
          | of h => exact h.less fun a q => q.1
          | lst e r => exact .lst e (fun q => q.2 fa) (r.less fun a q => q.1)
          | dct e k hl r => cases hm
          | ins ec e eo k r => exact .ins ec e eo (fun q => q.2 fa) k (r.less fun a q => q.1)
        | bor _ => cases e1
theorem RRepL.length {H0 : Hp} {rs : List RV} {vs : List V} (h : RRepL C z H0 H p σ rs vs) : rs.length = vs.length := by
  induction h with
  | nil => rfl
  | cons _ _ _ ih => simp [ih]
theorem RRepL.go {H0 : Hp} {r : List RV} {v : List V} (h : RRepL C z H0 H p σ r v) (s : SRel C L z H p σ) (g : Go C L z H p σ z' H' p' σ) : RRepL C z' H0 H' p' σ r v := by
  induction h with
  | nil => exact .nil
  | cons a b c ih => exact .cons (a.go s g) ih c
inductive TopL (C : Ctx) (z : As) (H : Hp) : List PV → List V → Prop
  | nil : TopL C z H [] []
  | cons {x : PV} {v : V} {xs : List PV} {vs : List V} : Top C z H x v → TopL C z H xs vs → TopL C z H (x :: xs) (v :: vs)
theorem derefs_top {H0 : Hp} {rs : List RV} {vs : List V} (s : SRel C L z H p σ) : ∀ {xs : List PV}, RRepL C z H0 H p σ rs vs → derefs p rs = some xs → TopL C z H xs vs := by
  intro xs h
  induction h generalizing xs with
  | nil => intro e; unfold derefs at e; cases e; exact .nil
  | @cons r v rs vs hr hrs hd ih =>
    intro e
    unfold derefs at e
    cases e1 : deref p r with
    | none => rw [e1] at e; cases e
    | some x =>
      rw [e1] at e
      cases e2 : derefs p rs with
      | none => rw [e2] at e; cases e
      | some ys =>
        rw [e2] at e
        cases e
        exact .cons (deref_top s hr e1) (ih e2)
/-- a built operation's answer -/
inductive Ans (C : Ctx) (z : As) (H : Hp) : RV → V → Hp → Prop
  | val {x : PV} {v : V} {H' : Hp} : (∀ a o, H a = some o → H' a = some o) → Rep C z H' x v → Ans C z H (.val x) v H'
  | lst {a : Addr} {xs : List PV} {vs : List V} : H a = none → RepL C z H xs vs → Ans C z H (.frs (.lst xs)) (.ref a) (upd H a (.lst vs))
  | dct {a : Addr} {ks xs : List PV} {l : List Key} {vs : List V} : H a = none → keysOf ks = some l → l.length = vs.length → RepL C z H xs vs → Ans C z H (.frs (.dct ks xs)) (.ref a) (upd H a (.dK (l.zip vs)))
theorem Ans.same {x : PV} {v : V} (h : Rep C z H x v) : Ans C z H (.val x) v H := .val (fun _ _ e => e) h
theorem upd_keep {a : Addr} {o : HO} (n : H a = none) : ∀ b u, H b = some u → upd H a o b = some u := fun b u e => by
  rw [upd_ne (ne_of_none e n)]; exact e
theorem RepL.ext {xs : List PV} {vs : List V} (h : RepL C z H xs vs) (k : ∀ a o, H a = some o → H' a = some o) : RepL C z H' xs vs :=
  RepL.keep (M := fun _ => False) (fun a o e _ _ => k a o e) ⟨fun _ q => q.elim, fun _ q => q.elim⟩ (fun a e => .inl e) xs vs h
theorem Rep.ext {xs : PV} {vs : V} (h : Rep C z H xs vs) (k : ∀ a o, H a = some o → H' a = some o) : Rep C z H' xs vs :=
  Rep.keep (M := fun _ => False) (fun a o e _ _ => k a o e) ⟨fun _ q => q.elim, fun _ q => q.elim⟩ (fun a e => .inl e) xs vs h
theorem Ans.tup {a : Addr} {xs : List PV} {vs : List V} (n : H a = none) (r : RepL C z H xs vs) : Ans C z H (.val (.tup xs)) (.ref a) (upd H a (.tup vs)) :=
  .val (upd_keep n) (.tup (.of upd_same) (r.ext (upd_keep n)))
/-- all tracked objects stay -/
theorem SRel.ext (s : SRel C L z H p σ) (k : ∀ a o, H a = some o → H' a = some o) : SRel C L z H' p σ where
  len := s.len
  zt := fun a e q => by
    cases h : H a with
    | none => exact s.zt a e h
    | some o => rw [k _ _ h] at q; cases q
  h0 := fun a e => s.h0 a (by
    cases h : H a with
    | none => rfl
    | some o => rw [k _ _ h] at e; cases e)
  pv := fun i x e => let ⟨v, h1, h2⟩ := s.pv i x e; ⟨v, h1, h2.ext k⟩
  ow := fun i t x e => by
    obtain ⟨a, o, h1, h2, h3, h4, h5, h6⟩ := s.ow i t x e
    refine ⟨a, o, h1, h2, k _ _ h3, h4, ?_, h6⟩
    cases h5 with
    | of h => exact .of (h.ext k)
    | lst e r => exact .lst (k _ _ e) (r.ext k)
    | dct e kk hl r => exact .dct (k _ _ e) kk hl (r.ext k)
    | ins ec e eo kk r => exact .ins ec (k _ _ e) (k _ _ eo) kk (r.ext k)
  dj := s.dj
  mp := s.mp
  tb := s.tb.ext k
  lm := fun i hs e => (s.lm i hs e).gen k fun _ q => .inl q
theorem Go.ext (g : Go C L z H p σ z' H' p' σ') (k : ∀ a o, H' a = some o → H'' a = some o) : Go C L z H p σ z' H'' p' σ' where
  rel := g.rel.ext k
  stp := ⟨fun a o e n nt => k _ _ (g.stp.keep a o e n nt), fun a e => g.stp.there a (by
    cases h : H' a with
    | none => rfl
    | some o => rw [k _ _ h] at e; cases e), g.stp.priv, g.stp.new⟩
  own := g.own
/-- more is private: a place that is new -/
theorem Go.more (s : SRel C L z H p σ) (g : Go C L z H p σ z' H' p' σ') {a : Addr} {o : HO} (n : H' a = none) : Go C L z H p σ (fun b => z' b ∨ b = a) (upd H' a o) p' σ' := by
  have g1 := g.ext (upd_keep (o := o) n)
  have nz : ∀ b, (z' b ∨ b = a) → z' b ∨ H' b = none := fun b q => q.imp id fun e => by subst e; exact n
  refine ⟨⟨g1.rel.len, fun b q => ?_, g1.rel.h0, fun i x e => ?_, fun i t x e => ?_, g1.rel.dj, g1.rel.mp, g1.rel.tb, fun i hs e => (g.rel.lm i hs e).gen (upd_keep n) nz⟩, ⟨g1.stp.keep, g1.stp.there, fun b e m => .inl (g1.stp.priv b e m), fun b q => ?_⟩, g1.own⟩
  · rcases q with q | q
    · exact g1.rel.zt b q
    · subst q; rw [upd_same]; intro z; cases z
  · obtain ⟨v, h1, h2⟩ := g.rel.pv i x e
    exact ⟨v, h1, Rep.keep (M := fun _ => False) (fun a o e _ _ => upd_keep n a o e) ⟨fun _ q => q.elim, fun _ q => q.elim⟩ nz _ _ h2⟩
  · obtain ⟨b, u, h1, h2, h3, h4, h5, h6⟩ := g.rel.ow i t x e
    refine ⟨b, u, h1, .inl h2, upd_keep n _ _ h3, h4, ?_, h6⟩
    cases h5 with
    | of h => exact .of (Rep.keep (M := fun _ => False) (fun a o e _ _ => upd_keep n a o e) ⟨fun _ q => q.elim, fun _ q => q.elim⟩ nz _ _ h)
    | lst e r => exact .lst (upd_keep n _ _ e) (RepL.keep (M := fun _ => False) (fun a o e _ _ => upd_keep n a o e) ⟨fun _ q => q.elim, fun _ q => q.elim⟩ nz _ _ r)
    | dct e k hl r => exact .dct (upd_keep n _ _ e) k hl (RepL.keep (M := fun _ => False) (fun a o e _ _ => upd_keep n a o e) ⟨fun _ q => q.elim, fun _ q => q.elim⟩ nz _ _ r)
    | ins ec e eo k r => exact .ins ec (upd_keep n _ _ e) (upd_keep n _ _ eo) k (RepL.keep (M := fun _ => False) (fun a o e _ _ => upd_keep n a o e) ⟨fun _ q => q.elim, fun _ q => q.elim⟩ nz _ _ r)
  · rcases q with q | q
    · exact g.stp.new b q
    · subst q; exact .inr (g.stp.there _ n)
/-- an operation's answer handed on -/
theorem Ans.fin {Q : V → Hp → Prop} {r : RV} {v : V} (s : SRel C L z H p σ) (g : Go C L z H p σ z' H' p' σ) (a : Ans C z' H' r v H'')
    (q : ∀ v H1 z1, Go C L z H p σ z1 H1 p' σ → RRep C z1 H H1 p' σ r v → Q v H1) : Q v H'' := by
  cases a with
  | val k h => exact q _ _ _ (g.ext k) (.val h)
  | @lst a xs vs n h =>
    refine q _ _ _ (g.more s (o := .lst vs) n) (.frs (g.stp.there _ n) (.inr rfl) (fun ⟨i, t, x, e1, e2⟩ => ?_) upd_same trivial (.lst upd_same ?_))
    · obtain ⟨b, o, h1, h2, h3, _⟩ := g.rel.ow i t x e1
      rw [e2] at h1; cases h1; rw [n] at h3; cases h3
    · exact RepL.keep (M := fun _ => False) (fun a o e _ _ => upd_keep n a o e) ⟨fun _ q => q.elim, fun _ q => q.elim⟩ (fun b q => q.imp id fun e => by subst e; exact n) _ _ h
  | @dct a ks xs l vs n hk hl h =>
    refine q _ _ _ (g.more s (o := .dK (l.zip vs)) n) (.frs (g.stp.there _ n) (.inr rfl) (fun ⟨i, t, x, e1, e2⟩ => ?_) upd_same trivial (.dct upd_same hk hl ?_))
    · obtain ⟨b, o, h1, h2, h3, _⟩ := g.rel.ow i t x e1
      rw [e2] at h1; cases h1; rw [n] at h3; cases h3
    · exact RepL.keep (M := fun _ => False) (fun a o e _ _ => upd_keep n a o e) ⟨fun _ q => q.elim, fun _ q => q.elim⟩ (fun b q => q.imp id fun e => by subst e; exact n) _ _ h
end
end Mp

/-! MpV: operations by values. -/
namespace Mp
open PySem PySem.Spec PyProof.Rows L2

theorem cpsEq (x y : Str) : decide (x.cps.toList = y.cps.toList) = (x == y) := by
  by_cases h : x = y
  · subst h; simp
  · have h2 : ¬ x.cps.toList = y.cps.toList := fun e => h (by
      cases x; cases y; simp only [Str.mk.injEq] at *
      exact Array.toList_inj.mp e)
    rw [decide_eq_false h2]
    exact (beq_eq_false_iff_ne.mpr h).symm

mutual
theorem eqv_toD : ∀ (x y : PV), x.isd = true → y.isd = true → PyData.eqv x.toD y.toD = x.eqv y
  | .tup xs, .tup ys, hx, hy => eqvL_toD xs ys hx hy
  | .lst xs, .lst ys, hx, hy => eqvL_toD xs ys hx hy
  | .ty _, _, hx, _ => by simp [PV.isd] at hx
  | .fn _, _, hx, _ => by simp [PV.isd] at hx
  | .frz _, _, hx, _ => by simp [PV.isd] at hx
  | .dct _ _, _, hx, _ => by simp [PV.isd] at hx
  | .ins _ _, _, hx, _ => by simp [PV.isd] at hx
  | .cas _ _, _, hx, _ => by simp [PV.isd] at hx
  | .dic _, _, hx, _ => by simp [PV.isd] at hx
  | .non, y, _, hy => by cases y <;> first | rfl | (simp [PV.isd] at hy; done)
  | .bl a, y, _, hy => by cases y <;> first | rfl | (simp [PV.isd] at hy; done) | (simp only [PV.toD, PyData.eqv, PV.eqv, Bool.beq_eq_decide_eq])
  | .int a, y, _, hy => by cases y <;> first | rfl | (simp [PV.isd] at hy; done) | (simp only [PV.toD, PyData.eqv, PV.eqv, Bool.beq_eq_decide_eq])
  | .str a, y, _, hy => by cases y <;> first | rfl | (simp [PV.isd] at hy; done) | exact (cpsEq _ _).symm
  | .tup xs, .non, _, _ => rfl
  | .tup xs, .bl _, _, _ => rfl
  | .tup xs, .int _, _, _ => rfl
  | .tup xs, .str _, _, _ => rfl
  | .tup xs, .lst _, _, _ => rfl
  | .tup xs, .ty _, _, hy => by simp [PV.isd] at hy
  | .tup xs, .fn _, _, hy => by simp [PV.isd] at hy
  | .tup xs, .frz _, _, hy => by simp [PV.isd] at hy
  | .tup xs, .dct _ _, _, hy => by simp [PV.isd] at hy
  | .tup xs, .ins _ _, _, hy => by simp [PV.isd] at hy
  | .tup xs, .cas _ _, _, hy => by simp [PV.isd] at hy
  | .tup xs, .dic _, _, hy => by simp [PV.isd] at hy
  | .lst xs, .non, _, _ => rfl
  | .lst xs, .bl _, _, _ => rfl
  | .lst xs, .int _, _, _ => rfl
  | .lst xs, .str _, _, _ => rfl
  | .lst xs, .tup _, _, _ => rfl
  | .lst xs, .ty _, _, hy => by simp [PV.isd] at hy
  | .lst xs, .fn _, _, hy => by simp [PV.isd] at hy
  | .lst xs, .frz _, _, hy => by simp [PV.isd] at hy
  | .lst xs, .dct _ _, _, hy => by simp [PV.isd] at hy
  | .lst xs, .ins _ _, _, hy => by simp [PV.isd] at hy
  | .lst xs, .cas _ _, _, hy => by simp [PV.isd] at hy
  | .lst xs, .dic _, _, hy => by simp [PV.isd] at hy
theorem eqvL_toD : ∀ (xs ys : List PV), PV.isdL xs = true → PV.isdL ys = true → PyData.eqvAll (PV.toDs xs) (PV.toDs ys) = PV.eqvL xs ys
  | [], [], _, _ => rfl
  | [], _ :: _, _, _ => rfl
  | _ :: _, [], _, _ => rfl
  | x :: xs, y :: ys, hx, hy => by
    simp only [PV.isdL, Bool.and_eq_true] at hx hy
    simp only [PV.toDs, PyData.eqvAll, PV.eqvL]
    rw [eqv_toD x y hx.1 hy.1, eqvL_toD xs ys hx.2 hy.2]
end
mutual
theorem canLay_toD : ∀ (x : PV), x.isd = true → x.toD.canLay0 = true
  | .non, _ => rfl
  | .bl _, _ => rfl
  | .int _, _ => rfl
  | .str s, h => by
    simp only [PV.isd] at h
    simp only [PV.toD, PyData.canLay0, PyData.strOk]
    rw [← Array.all_toList]
    exact h
  | .tup xs, h => canLay_toDs xs h
  | .lst xs, h => canLay_toDs xs h
  | .ty _, h => by simp [PV.isd] at h
  | .fn _, h => by simp [PV.isd] at h
  | .frz _, h => by simp [PV.isd] at h
  | .dct _ _, h => by simp [PV.isd] at h
  | .ins _ _, h => by simp [PV.isd] at h
  | .cas _ _, h => by simp [PV.isd] at h
  | .dic _, h => by simp [PV.isd] at h
theorem canLay_toDs : ∀ (xs : List PV), PV.isdL xs = true → PyData.canLayAll0 (PV.toDs xs) = true
  | [], _ => rfl
  | x :: xs, h => by
    simp only [PV.isdL, Bool.and_eq_true] at h
    simp only [PV.toDs, PyData.canLayAll0, canLay_toD x h.1, canLay_toDs xs h.2, Bool.and_self]
end
mutual
theorem dep_toD : ∀ (x : PV), x.isd = true → x.toD.depth = x.dep
  | .non, _ => rfl
  | .bl _, _ => rfl
  | .int _, _ => rfl
  | .str s, _ => rfl
  | .tup xs, h => by simp only [PV.toD, PyData.depth, PV.dep, dep_toDs xs h]
  | .lst xs, h => by simp only [PV.toD, PyData.depth, PV.dep, dep_toDs xs h]
  | .ty _, _ => rfl
  | .fn _, _ => rfl
  | .frz _, _ => rfl
  | .dct _ _, h => by simp [PV.isd] at h
  | .ins _ _, h => by simp [PV.isd] at h
  | .cas _ _, h => by simp [PV.isd] at h
  | .dic _, h => by simp [PV.isd] at h
theorem dep_toDs : ∀ (xs : List PV), PV.isdL xs = true → PyData.depthAll (PV.toDs xs) = PV.depL xs
  | [], _ => rfl
  | x :: xs, h => by
    simp only [PV.isdL, Bool.and_eq_true] at h
    simp only [PV.toDs, PyData.depthAll, PV.depL, dep_toD x h.1, dep_toDs xs h.2]
end
theorem shaped_of {n : Nat} {x : PV} (h : x.dat n = true) (hn : n ≤ 64) : SeqAt.shaped x.toD = true := by
  unfold PV.dat at h
  simp only [Bool.and_eq_true, decide_eq_true_eq] at h
  unfold SeqAt.shaped
  rw [canLay_toD x h.1, dep_toD x h.1]
  simp only [Bool.true_and, decide_eq_true_eq]
  omega
theorem isd_of {n : Nat} {x : PV} (h : x.dat n = true) : x.isd = true := by
  unfold PV.dat at h
  exact (Bool.and_eq_true_iff.mp h).1
section
variable {C : Ctx} {z : As} {H : Hp}
mutual
theorem Rep.dp : ∀ (x : PV) (v : V), Rep C z H x v → x.isd = true → Dp C.K H v x.toD
  | .non, _, h, _ => by cases h; exact .non
  | .bl _, _, h, _ => by cases h; exact .bl _
  | .int _, _, h, _ => by cases h; exact .int _
  | .str _, _, h, _ => by cases h; exact .str _
  | .tup xs, _, h, d => by cases h with | tup s r => exact .tup s (RepL.dp xs _ r d)
  | .lst xs, _, h, d => by cases h with | lst s _ r => exact .lst (SqL.of s) (RepL.dp xs _ r d)
  | .ty _, _, _, d => by simp [PV.isd] at d
  | .fn _, _, _, d => by simp [PV.isd] at d
  | .frz _, _, _, d => by simp [PV.isd] at d
  | .dct _ _, _, _, d => by simp [PV.isd] at d
  | .ins _ _, _, _, d => by simp [PV.isd] at d
  | .cas _ _, _, _, d => by simp [PV.isd] at d
  | .dic _, _, _, d => by simp [PV.isd] at d
theorem RepL.dp : ∀ (xs : List PV) (vs : List V), RepL C z H xs vs → PV.isdL xs = true → DpAll C.K H vs (PV.toDs xs)
  | [], _, h, _ => by cases h; exact .nil
  | x :: xs, _, h, d => by
    simp only [PV.isdL, Bool.and_eq_true] at d
    cases h with | cons a b => exact .cons (Rep.dp x _ a d.1) (RepL.dp xs _ b d.2)
end
theorem Top.dp {x : PV} {v : V} (h : Top C z H x v) (d : x.isd = true) : Dp C.K H v x.toD := by
  cases h with
  | of h => exact h.dp _ _ d
  | lst s r => exact .lst (SqL.of s) (r.dp _ _ d)
  | dct => simp [PV.isd] at d
  | ins => simp [PV.isd] at d
mutual
/-- what stands in memory hangs on no draw -/
theorem Rep.isd : ∀ (x : PV) (v : V), Rep C z H x v → x.isc = true → x.isd = true
  | .non, _, h, _ => rfl
  | .bl _, _, h, _ => rfl
  | .int _, _, h, _ => rfl
  | .str _, _, h, d => d
  | .tup xs, _, h, d => by cases h with | tup s r => exact RepL.isd xs _ r d
  | .lst xs, _, h, d => by cases h with | lst s _ r => exact RepL.isd xs _ r d
  | .ty _, _, _, d => by simp [PV.isc] at d
  | .fn _, _, _, d => by simp [PV.isc] at d
  | .frz _, _, _, d => by simp [PV.isc] at d
  | .dct _ _, _, _, d => by simp [PV.isc] at d
  | .ins _ _, _, _, d => by simp [PV.isc] at d
  | .cas _ _, _, h, d => by cases h
  | .dic _, _, _, d => by simp [PV.isc] at d
theorem RepL.isd : ∀ (xs : List PV) (vs : List V), RepL C z H xs vs → PV.iscL xs = true → PV.isdL xs = true
  | [], _, h, _ => rfl
  | x :: xs, _, h, d => by
    simp only [PV.iscL, Bool.and_eq_true] at d
    cases h with | cons a b =>
      simp only [PV.isdL, Bool.and_eq_true]
      exact ⟨Rep.isd x _ a d.1, RepL.isd xs _ b d.2⟩
end
theorem Top.isd {x : PV} {v : V} (h : Top C z H x v) (d : x.isc = true) : x.isd = true := by
  cases h with
  | of h => exact h.isd _ _ d
  | lst s r => exact r.isd _ _ d
  | dct => simp [PV.isc] at d
  | ins => simp [PV.isc] at d
theorem Top.nocas {x y : PV} {v : V} (h : Top C z H x v) (d : PV.casq x y = true) : False := by
  unfold PV.casq at d
  simp only [Bool.and_eq_true, Bool.not_eq_true'] at d
  rw [h.isd d.1.1.1] at d
  cases d.1.1.2
theorem Top.non {v : V} (h : Top C z H .non v) : v = .non := by cases h with | of h => cases h; rfl
theorem Top.bl {b : Bool} {v : V} (h : Top C z H (.bl b) v) : v = .bl b := by cases h with | of h => cases h; rfl
theorem Top.int {i : Int} {v : V} (h : Top C z H (.int i) v) : v = .int i := by cases h with | of h => cases h; rfl
theorem Top.str {i : Str} {v : V} (h : Top C z H (.str i) v) : v = .str i := by cases h with | of h => cases h; rfl
theorem Top.ty {i : String} {v : V} (h : Top C z H (.ty i) v) : v = .ty i := by cases h with | of h => cases h; rfl
theorem Top.tup {xs : List PV} {v : V} (h : Top C z H (.tup xs) v) : ∃ a vs, v = .ref a ∧ SqT C.K H a vs ∧ RepL C z H xs vs := by
  cases h with | of h => cases h with | tup s r => exact ⟨_, _, rfl, s, r⟩
theorem Top.lsts {xs : List PV} {v : V} (h : Top C z H (.lst xs) v) : ∃ a vs, v = .ref a ∧ H a = some (.lst vs) ∧ RepL C z H xs vs := by
  cases h with
  | of h => cases h with | lst s _ r => exact ⟨_, _, rfl, s, r⟩
  | lst s r => exact ⟨_, _, rfl, s, r⟩
theorem Top.dcts {ks xs : List PV} {v : V} (h : Top C z H (.dct ks xs) v) : ∃ (a : Addr) (l : List Key) (vs : List V), v = .ref a ∧ Rd H a (.dK (l.zip vs)) ∧ keysOf ks = some l ∧ l.length = vs.length ∧ RepL C z H xs vs := by
  cases h with
  | of h => cases h with | dct s k hl r => exact ⟨_, _, _, rfl, .inr ⟨_, s⟩, k, hl, r⟩
  | dct s k hl r => exact ⟨_, _, _, rfl, .inl s, k, hl, r⟩
theorem Top.nocs {k : Nat} {xs : List PV} {v : V} (h : Top C z H (.cas k xs) v) : False := by
  cases h with | of h => cases h
theorem Top.nodic {k : Nat} {v : V} (h : Top C z H (.dic k) v) : False := by
  cases h with | of h => cases h
theorem Top.frz {xs : List PV} {v : V} (h : Top C z H (.frz xs) v) : ∃ a vs, v = .ref a ∧ FrzL C.K H a vs ∧ RepL C z H xs vs := by
  cases h with | of h => cases h with | frz s r => exact ⟨_, _, rfl, s, r⟩
end
theorem line_eq : line = sizeLine := rfl

/-! ### the operators -/
section
variable {C : Ctx} {X : Cx}
/-- an operation's reading: what stands for the operands, what is answered -/
def rBin (C : Ctx) (op : Operator) : R2 := fun x y H Q => ∃ z u v r, Top C z H u x ∧ Top C z H v y ∧ binV op u v = some r ∧ ∀ w H', Ans C z H r w H' → Q w H'
theorem okMul_ok {i j : Int} (h : okMul i j = true) : IntMulOk i j := CMulW.ok (by unfold okMul at h; unfold CMulW; exact of_decide_eq_true h)
theorem bits_pow {i j : Int} (h0 : 0 ≤ j) (h : (((i.natAbs.log2 + 1 : Nat) : Int) * j ≤ 1000000)) : (Builtin.Int.intBits i : Int) * j ≤ 2 ^ 27 := by
  have b : Builtin.Int.intBits i ≤ i.natAbs.log2 + 1 := by
    unfold Builtin.Int.intBits
    split <;> omega
  have : (Builtin.Int.intBits i : Int) * j ≤ ((i.natAbs.log2 + 1 : Nat) : Int) * j := Int.mul_le_mul_of_nonneg_right (by omega) h0
  omega
theorem op_bin {op : Operator} (hK : X.K = C.K) : OpR X (binaryOp op) (rBin C op) := by
  intro pins s σ H x y v u Q I rx ry h
  obtain ⟨z, a, b, r, ta, tb, e, q⟩ := h
  have int2 : ∀ i j, a = .int i → b = .int j → ∃ k t t', binI op i j = some k ∧ v = .int i t ∧ u = .int j t' ∧ Q (.int k) H := by
    intro i j ea eb
    subst ea eb
    have e2 : (binI op i j).map (fun k => RV.val (.int k)) = some r := by cases op <;> exact e
    obtain ⟨k, e3, e4⟩ := Option.map_eq_some_iff.mp e2
    subst e4
    obtain rfl := ta.int
    obtain rfl := tb.int
    obtain ⟨t, rfl⟩ := rx
    obtain ⟨t', rfl⟩ := ry
    exact ⟨k, t, t', e3, rfl, rfl, q _ _ (.same (.int k))⟩
  cases a with
  | int i =>
    cases b with
    | int j =>
      obtain ⟨k, t, t', e1, rfl, rfl, q1⟩ := int2 i j rfl rfl
      cases op <;> simp only [binI, Option.some.injEq, reduceCtorEq] at e1
      · subst e1; exact add_int ⟨.int _, H, I.tok _, ⟨_, rfl⟩, q1⟩
      · subst e1; exact sub_int ⟨.int _, H, I.tok _, ⟨_, rfl⟩, q1⟩
      · split at e1
        · rename_i hm; cases e1; exact mul_int ⟨.int _, H, I.tok _, ⟨_, rfl⟩, q1⟩ (okMul_ok hm)
        · cases e1
      · split at e1
        · cases e1
        · cases e1; exact mod_int' (by assumption) ⟨.int _, H, I.tok _, ⟨_, rfl⟩, q1⟩
      · split at e1
        · rename_i hp
          simp only [Bool.and_eq_true, decide_eq_true_eq] at hp
          cases e1
          exact pow_int hp.1 (bits_pow hp.1 hp.2) ⟨.int _, H, I.tok _, ⟨_, rfl⟩, q1⟩
        · cases e1
      · split at e1
        · cases e1
        · split at e1
          · cases e1
          · rename_i h0 hp; cases e1
            exact floordiv_int h0 ⟨.int _, H, I.tok _, ⟨_, rfl⟩, q1⟩ (.inl (by simpa using hp))
    | _ => cases op <;> simp [binV] at e
  | str a =>
    cases b with
    | str b =>
      cases op <;> simp only [binV, reduceCtorEq] at e
      split at e
      · cases e
        obtain rfl := ta.str
        obtain rfl := tb.str
        exact op_add_str pins s σ H _ _ v u Q I rx ry ⟨a, b, rfl, rfl, by rw [← line_eq]; assumption, q _ _ (.same (.str _))⟩
      · cases e
    | _ => cases op <;> simp [binV] at e
  | tup xs =>
    obtain ⟨p, vs, rfl, sq, rp⟩ := ta.tup
    have sq' : SqT X.K H p vs := by rw [hK]; exact sq
    have l1 := rp.length
    cases b with
    | tup ys =>
      obtain ⟨p2, ws, rfl, sq2, rp2⟩ := tb.tup
      have sq2' : SqT X.K H p2 ws := by rw [hK]; exact sq2
      have l2 := rp2.length
      cases op <;> simp only [binV, reduceCtorEq] at e
      split at e
      · cases e
        refine op_catA pins s σ H _ _ v u Q I rx ry ⟨p, p2, vs, ws, rfl, rfl, sq', sq2', by rw [← line_eq, ← l1, ← l2]; assumption, fun e => ?_, fun e1 e2 => ?_, fun e1 e2 p3 n => ?_⟩
        · subst e; cases rp; exact q _ _ (.same (.tup sq2 rp2))
        · subst e2; cases rp2; rw [List.append_nil] at q; exact q _ _ (.same (.tup sq rp))
        · exact q _ _ (.tup n (rp.append rp2))
      · cases e
    | int k =>
      obtain rfl := tb.int
      cases op <;> simp only [binV, reduceCtorEq] at e
      split at e
      · rename_i hk
        cases e
        refine op_repT pins s σ H _ _ v u Q I rx ry ⟨p, k, vs, rfl, rfl, sq', fun e => ?_, hk.1, hk.2.1, by omega, fun p2 n => q _ _ (.tup n (rp.rep _))⟩
        subst e; simp only [List.length_nil] at l1; omega
      · cases e
    | _ => cases op <;> simp [binV] at e
  | lst xs =>
    obtain ⟨p, vs, rfl, sq, rp⟩ := ta.lsts
    have l1 := rp.length
    cases b with
    | lst ys =>
      obtain ⟨p2, ws, rfl, sq2, rp2⟩ := tb.lsts
      have l2 := rp2.length
      cases op <;> simp only [binV, reduceCtorEq] at e
      split at e
      · cases e
        exact op_cat pins s σ H _ _ v u Q I rx ry ⟨p, p2, vs, ws, rfl, rfl, sq, sq2, by rw [← line_eq, ← l1, ← l2]; assumption, fun p3 n => q _ _ (.lst n (rp.append rp2))⟩
      · cases e
    | int k =>
      obtain rfl := tb.int
      cases op <;> simp only [binV, reduceCtorEq] at e
      split at e
      · rename_i hk
        cases e
        refine op_rep pins s σ H _ _ v u Q I rx ry ⟨p, k, vs, rfl, rfl, sq, by omega, by omega, ?_, fun p2 n => q _ _ (.lst n (rp.rep _))⟩
        have : vs.length * k.toNat ≤ 1000 * 1000 := Nat.mul_le_mul (by omega) (by omega)
        have e2 : sizeLine = 16777216 := rfl
        omega
      · cases e
    | _ => cases op <;> simp [binV] at e
  | non => cases op <;> cases b <;> simp [binV] at e
  | frz _ => cases op <;> cases b <;> simp [binV] at e
  | dct _ _ => cases op <;> cases b <;> simp [binV] at e
  | ins _ _ => cases op <;> cases b <;> simp [binV] at e
  | cas _ _ => cases op <;> cases b <;> simp [binV] at e
  | dic _ => cases op <;> cases b <;> simp [binV] at e
  | bl _ => cases op <;> cases b <;> simp [binV] at e
  | ty _ => cases op <;> cases b <;> simp [binV] at e
  | fn _ => cases op <;> cases b <;> simp [binV] at e
end
end Mp

/-! MpW: subscripts, slices, comparisons, truth, built-ins by values. -/
namespace Mp
open PySem PySem.Spec PyProof.Rows L2

section
variable {C : Ctx} {z : As} {H : Hp}
theorem ixP_eq (n : Nat) (i : Int) : ixP n i = ixN n i := rfl
theorem at_rep {xs : List PV} {vs : List V} {i : Int} {x : PV} (r : RepL C z H xs vs) (e : atP xs i = some x) : ∃ v, atI vs i = some v ∧ Rep C z H x v := by
  unfold atP at e
  unfold atI
  rw [← r.length, ← ixP_eq]
  cases q : ixP xs.length i with
  | none => rw [q] at e; cases e
  | some j =>
    rw [q] at e
    obtain ⟨v, h1, h2⟩ := r.get e
    exact ⟨v, h1, h2⟩
theorem cut_rep {xs : List PV} {vs : List V} (lo hi : Option Int) (r : RepL C z H xs vs) : RepL C z H (cutP xs lo hi) (cutV vs lo hi) := by
  unfold cutP cutV
  rw [r.length]
  exact (r.drop _).take _
theorem cut_whole {xs : List PV} {lo hi : Option Int} (h : HT.sIx xs.length 0 lo = 0 ∧ HT.sIx xs.length xs.length hi = xs.length) : cutP xs lo hi = xs := by
  unfold cutP
  rw [h.1, h.2, List.drop_zero, Nat.sub_zero, List.take_length]
end
section
variable {C : Ctx} {X : Cx}
def rSub (C : Ctx) : R2 := fun x y H Q => ∃ z u v r, Top C z H u x ∧ Top C z H v y ∧ subV u v = some r ∧ ∀ w, Rep C z H r w → Q w H
/-- a dict's reading by a key -/
theorem ix_dct (hu : X.A.units + 1 < cLine) : IxR X (fun x y H Q => ∃ a v, x = .ref a ∧ DGet H a y (some v) ∧ Q v H) := by
  intro value slice pins s σ H x y v u Q I rx ry h hs
  obtain ⟨a, w, rfl, g, q⟩ := h
  obtain rfl : v = Value.ref a := rx
  have hT := dict_typeIs I g
  unfold subscriptTail
  apply wpAny_bind
  rw [getitemInPython_of_ne hT.not_modules]
  apply wpAny_bind
  apply wpAny_specialOf hT PySem.F.slot_dict_getitem.lookup
  have fin : wpAny (model X.prog X.w) X.A (subscripted slice false (.ref a) u) (fun r s₃ => wpAny (model X.prog X.w) X.A (letTemporaryGo value (.ref a) r >>= fun _ => pure r) (EP X pins σ Q) X.xe s₃) X.xe s := by
    rw [hs]
    exact wpAny_operating (d_getItem hu I g ry fun w' s3 I3 rw' => wpAny_bind (wpAny_letTemporaryGo (wpAny_pure ⟨w, H, I3, rw', q⟩)))
  first
    | exact wpAny_pure (wpAny_bind fin)
    | exact wpAny_bind (wpAny_pure (wpAny_bind fin))
    | exact wpAny_bind fin
theorem zip_any {j : Key} : ∀ (l : List Key) (vs : List V), l.length = vs.length → ((l.zip vs).any fun kv => decide (kv.1 = j)) = l.any fun i => decide (i = j)
  | [], [], _ => rfl
  | [], _ :: _, h => by simp at h
  | _ :: _, [], h => by simp at h
  | i :: l, v :: vs, h => by
    rw [List.zip_cons_cons, List.any_cons, List.any_cons, zip_any l vs (by simpa using h)]
theorem key_top {C : Ctx} {z : As} {H : Hp} {b : PV} {y : V} {k : Key} (t : Top C z H b y) (e : keyOf b = some k) : y = kV k := by
  cases b <;> first | (cases e; done) | skip
  · cases e; exact t.int
  · cases e; exact t.str
theorem look_rep {C : Ctx} {z : As} {H : Hp} : ∀ {l : List Key} {xs : List PV} {vs : List V} {k : Key} {r : PV}, RepL C z H xs vs → lookK l xs k = some r → ∃ w, valV (l.zip vs) k = some w ∧ Rep C z H r w
  | [], xs, vs, k, r, _, h => by cases xs <;> cases h
  | j :: l, [], vs, k, r, _, h => by cases h
  | j :: l, x :: xs, vs, k, r, h, e => by
    cases h with
    | cons a b =>
      have e' : (if k = j then some x else lookK l xs k) = some r := e
      rw [List.zip_cons_cons]
      split at e'
      · rename_i hk
        cases e'
        exact ⟨_, valV_pos hk.symm, a⟩
      · rename_i hk
        obtain ⟨w, h1, h2⟩ := look_rep b e'
        exact ⟨w, (valV_neg (fun q => hk q.symm)).trans h1, h2⟩
theorem ix_sub (hK : X.K = C.K) (hu : X.A.units + 1 < cLine) : IxR X (rSub C) := by
  intro value slice pins s σ H x y v u Q I rx ry h hs
  obtain ⟨z, a, b, r, ta, tb, e, q⟩ := h
  by_cases hd : ∃ ks xs, a = .dct ks xs
  · obtain ⟨ks, xs, rfl⟩ := hd
    obtain ⟨p, l, vs, rfl, rd, hk, hl, rp⟩ := ta.dcts
    have e' : (match keysOf ks, keyOf b with
      | some l, some k => lookK l xs k
      | _, _ => none) = some r := by cases b <;> exact e
    rw [hk] at e'
    cases hb : keyOf b with
    | none => rw [hb] at e'; cases e'
    | some k =>
      rw [hb] at e'
      obtain ⟨w, h1, h2⟩ := look_rep rp e'
      exact ix_dct hu value slice pins s σ H _ _ v u Q I rx ry ⟨p, w, rfl, .inl ⟨_, k, rd, key_top tb hb, h1.symm⟩, q w h2⟩ hs
  have nd : ∀ ks xs, a ≠ .dct ks xs := fun ks xs h => hd ⟨ks, xs, h⟩
  cases b with
  | int i =>
    obtain rfl := tb.int
    cases a with
    | tup xs =>
      obtain ⟨p, vs, rfl, sq, rp⟩ := ta.tup
      obtain ⟨w, h1, h2⟩ := at_rep rp e
      exact ix_tup value slice pins s σ H _ _ v u Q I rx ry ⟨p, vs, i, w, rfl, rfl, by rw [hK]; exact sq, h1, q w h2⟩ hs
    | lst xs =>
      obtain ⟨p, vs, rfl, sq, rp⟩ := ta.lsts
      obtain ⟨w, h1, h2⟩ := at_rep rp e
      exact ix_list value slice pins s σ H _ _ v u Q I rx ry ⟨p, vs, i, w, rfl, rfl, .of sq, h1, q w h2⟩ hs
    | frz xs =>
      obtain ⟨p, vs, rfl, sq, rp⟩ := ta.frz
      obtain ⟨w, h1, h2⟩ := at_rep rp e
      exact ix_list value slice pins s σ H _ _ v u Q I rx ry ⟨p, vs, i, w, rfl, rfl, by rw [hK]; exact sq.sql, h1, q w h2⟩ hs
    | str t =>
      obtain rfl := ta.str
      unfold subV at e
      dsimp only at e
      split at e
      · rename_i hl
        obtain ⟨c, e1, e2⟩ := Option.map_eq_some_iff.mp e
        subst e2
        have e3 : atI t.cps.toList i = some c := by
          unfold atP at e1
          unfold atI
          rw [← ixP_eq]
          cases g : ixP t.cps.toList.length i with
          | none => rw [g] at e1; cases e1
          | some j => rw [g] at e1; exact e1
        exact ix_str value slice pins s σ H _ _ v u Q I rx ry ⟨t, i, c, rfl, rfl, hl, e3, q _ (.str _)⟩ hs
      · cases e
    | dct ks xs => exact absurd rfl (nd ks xs)
    | _ => simp [subV] at e
  | _ => cases a <;> first | exact absurd rfl (nd _ _) | simp [subV] at e
def rSlc (C : Ctx) : V → Option Int → Option Int → Hp → VK → Prop := fun x lo hi H Q => ∃ z u r, Top C z H u x ∧ slcV u lo hi = some r ∧ ∀ w H', Ans C z H r w H' → Q w H'
theorem sl_slc (hK : X.K = C.K) : SlR X (rSlc C) := by
  intro pins s σ H x v vl vu lo hi sl Q I rx hs pl pu h
  obtain ⟨z, a, r, ta, e, q⟩ := h
  cases a with
  | tup xs =>
    obtain ⟨p, vs, rfl, sq, rp⟩ := ta.tup
    cases e
    refine sl_tupA pins s σ H _ v vl vu lo hi sl Q I rx hs pl pu ⟨p, vs, rfl, by rw [hK]; exact sq, fun hw => ?_, fun hw p2 n => q _ _ (.tup n (cut_rep lo hi rp))⟩
    rw [← rp.length] at hw
    rw [cut_whole hw] at q
    exact q _ _ (.same (.tup sq rp))
  | lst xs =>
    obtain ⟨p, vs, rfl, sq, rp⟩ := ta.lsts
    cases e
    exact sl_list pins s σ H _ v vl vu lo hi sl Q I rx hs pl pu ⟨p, vs, rfl, .of sq, fun p2 n => q _ _ (.lst n (cut_rep lo hi rp))⟩
  | _ => simp [slcV] at e
/-! ### comparisons -/
def rCmp (C : Ctx) (op : CmpOp) : R2 := fun x y H Q => ∃ z u v b, Top C z H u x ∧ Top C z H v y ∧ cmpV op u v = some b ∧ Q (.bl b) H
theorem mem_any (d : PV) (hd : d.isd = true) : ∀ (xs : List PV), PV.isdL xs = true → ((PV.toDs xs).any fun y => PyData.eqv y d.toD) = memV d xs
  | [], _ => rfl
  | x :: xs, h => by
    simp only [PV.isdL, Bool.and_eq_true] at h
    simp only [PV.toDs, List.any_cons, memV]
    rw [eqv_toD x d h.1 hd, mem_any d hd xs h.2]
    cases PV.eqv x d <;> rfl
theorem room_in {A : Around} {d : PyData} {n m : Nat} (h : d.depth ≤ 20) (hu : A.units + 65 < cLine) : A.units + 1 + min m d.depth < cLine := by
  have : min m d.depth ≤ d.depth := Nat.min_le_right _ _
  omega
theorem in_all {op : CmpOp} (hK : X.K = C.K) (hu : X.A.units + 65 < cLine) (ho : op = .In ∨ op = .NotIn) {pins : List (Addr × Obj)} {s : Shared} {σ : L2.St} {H : Hp} {x y : V} {v u : Value} {Q : VK} {z : As} {a b : PV} {k : Bool} (I : Inv X pins σ H s) (rx : RelV x v) (ry : RelV y u)
    (ta : Top C z H a x) (tb : Top C z H b y) (e : inV a b = some k) (q : Q (.bl (if op = .In then k else !k)) H) : wpAny (model X.prog X.w) X.A (compareOp op v u) (EP X pins σ Q) X.xe s := by
  have key : ∀ (d : PyData) (ys : List PV), (b = .lst ys ∧ d = .list (PV.toDs ys) ∨ b = .tup ys ∧ d = .tuple (PV.toDs ys)) → a.dat 20 = true → PV.datL 20 ys = true → memV a ys = k →
      wpAny (model X.prog X.w) X.A (compareOp op v u) (EP X pins σ Q) X.xe s := by
    intro d ys hb h1 h2 hk
    have ia := isd_of h1
    have iys : PV.isdL ys = true := by unfold PV.datL at h2; exact (Bool.and_eq_true_iff.mp h2).1
    obtain ⟨as, r1⟩ := Dp.reads I a.toD x v (by rw [hK]; exact ta.dp ia) rx
    have hd2 : Dp X.K H y d := by
      rw [hK]
      rcases hb with ⟨rfl, rfl⟩ | ⟨rfl, rfl⟩
      · exact tb.dp (x := .lst ys) iys
      · exact tb.dp (x := .tup ys) iys
    obtain ⟨bs, r2⟩ := Dp.reads I d y u hd2 ry
    have hm := mem_any a ia ys iys
    rw [hk] at hm
    have da : a.toD.depth ≤ 20 := by
      rw [dep_toD a ia]
      unfold PV.dat at h1
      exact of_decide_eq_true (Bool.and_eq_true_iff.mp h1).2
    have rm := room_in (A := X.A) (n := 0) (m := PyData.depthAll (PV.toDs ys)) da hu
    rcases hb with ⟨rfl, rfl⟩ | ⟨rfl, rfl⟩ <;> rcases ho with rfl | rfl
    · exact SeqAt.in_list_reads r2 r1 (canLay_toDs ys iys) (canLay_toD a ia) rm ⟨.bl k, H, I, by rw [hm]; rfl, q⟩
    · exact SeqAt.notIn_list_reads r2 r1 (canLay_toDs ys iys) (canLay_toD a ia) rm ⟨.bl (!k), H, I, by rw [hm]; rfl, q⟩
    · exact SeqAt.in_tuple_reads r2 r1 (canLay_toDs ys iys) (canLay_toD a ia) rm ⟨.bl k, H, I, by rw [hm]; rfl, q⟩
    · exact SeqAt.notIn_tuple_reads r2 r1 (canLay_toDs ys iys) (canLay_toD a ia) rm ⟨.bl (!k), H, I, by rw [hm]; rfl, q⟩
  cases b with
  | lst ys =>
    simp only [inV] at e
    split at e
    · rename_i hc
      rw [Bool.and_eq_true] at hc
      exact key _ ys (.inl ⟨rfl, rfl⟩) hc.1 hc.2 (Option.some.inj e)
    · cases e
  | tup ys =>
    simp only [inV] at e
    split at e
    · rename_i hc
      rw [Bool.and_eq_true] at hc
      exact key _ ys (.inr ⟨rfl, rfl⟩) hc.1 hc.2 (Option.some.inj e)
    · cases e
  | str t =>
    obtain rfl := tb.str
    cases a with
    | str r =>
      obtain rfl := ta.str
      simp only [inV] at e
      split at e
      · rename_i c hc
        obtain rfl : r = ⟨#[c]⟩ := by
          obtain ⟨⟨l⟩⟩ := r
          simp only at hc
          rw [hc]
        cases e
        rcases ho with rfl | rfl
        · exact op_in_sign pins s σ H _ _ v u Q I rx ry ⟨c, t, rfl, rfl, q⟩
        · exact op_notIn_sign pins s σ H _ _ v u Q I rx ry ⟨c, t, rfl, rfl, q⟩
      · cases e
    | _ => simp [inV] at e
  | dct ks xs =>
    obtain ⟨p, l, vs, rfl, rd, hk, hl, rp⟩ := tb.dcts
    cases ry
    have e' : (match keysOf ks, keyOf a with
      | some l, some k => some (l.any fun j => decide (j = k))
      | _, _ => none) = some k := e
    rw [hk] at e'
    cases hb : keyOf a with
    | none => rw [hb] at e'; cases e'
    | some j =>
      rw [hb] at e'
      have e2 : (valV (l.zip vs) j).isSome = k := by
        rw [← Option.some.inj e', ← valV_any, zip_any l vs hl]
      have g : DGet H p x (valV (l.zip vs) j) := .inl ⟨_, j, rd, key_top ta hb, rfl⟩
      rcases ho with rfl | rfl
      · exact d_in (by omega) I g rx fun s3 I3 => ⟨.bl k, H, I3, by rw [e2]; rfl, q⟩
      · exact d_notIn (by omega) I g rx fun s3 I3 => ⟨.bl (!k), H, I3, by rw [e2]; rfl, q⟩
  | _ => simp [inV] at e
theorem top_not_none {z : As} {H : Hp} {a : PV} {x : V} {b : Bool} (ta : Top C z H a x) (gv : ∀ g v, C.gv g = some v → ∃ f, v = .ref f) (e : isNo a = some b) : decide (x = V.non) = b := by
  cases ta with
  | of h =>
    cases h with
    | fn e2 => obtain ⟨f, rfl⟩ := gv _ _ e2; cases e; rfl
    | _ => cases e; rfl
  | lst => cases e; rfl
  | dct => cases e; rfl
  | ins => cases e; rfl
theorem strs_of {x y : PV} {a b : Str} (h : strs? x y = some (a, b)) : x = .str a ∧ y = .str b := by
  cases x <;> cases y <;> simp_all [strs?]
theorem keysOf_len0 : ∀ {ks : List PV} {l : List Key}, keysOf ks = some l → l.length = ks.length
  | [], l, e => by cases e; rfl
  | k :: ks, l, e => by
    simp only [keysOf] at e
    split at e
    · rename_i a b h1 h2
      cases e
      simp [keysOf_len0 h2]
    · cases e
theorem look_none {C : Ctx} {z : As} {H : Hp} : ∀ {l : List Key} {xs : List PV} {vs : List V} {k : Key}, RepL C z H xs vs → lookK l xs k = none → valV (l.zip vs) k = none
  | [], xs, vs, k, _, _ => rfl
  | j :: l, [], vs, k, h, _ => by cases h; rfl
  | j :: l, x :: xs, vs, k, h, e => by
    cases h with
    | cons a b =>
      have e' : (if k = j then some x else lookK l xs k) = none := e
      rw [List.zip_cons_cons]
      split at e'
      · cases e'
      · rename_i hk
        exact (valV_neg (fun q => hk q.symm)).trans (look_none b e')
theorem look_mem : ∀ {l : List Key} {xs : List PV} {k : Key} {r : PV}, lookK l xs k = some r → r ∈ xs
  | [], xs, k, r, h => by cases xs <;> cases h
  | j :: l, [], k, r, h => by cases h
  | j :: l, x :: xs, k, r, e => by
    have e' : (if k = j then some x else lookK l xs k) = some r := e
    split at e'
    · cases e'; exact List.mem_cons_self
    · exact List.mem_cons_of_mem _ (look_mem e')
theorem hits_dct {pins : List (Addr × Obj)} {σ : L2.St} {H : Hp} {s : Shared} {z : As} {l' : List Key} {ys : List PV} {us' : List V} {vb : List (Key × Value)} (hK : X.K = C.K) (hu : X.A.units + 65 < cLine) (I : Inv X pins σ H s) (rb : KV (l'.zip us') vb) (rpb : RepL C z H ys us') (db : ys.all (fun v => v.dat 20) = true) :
    ∀ (l : List Key) (xs : List PV) (us : List V) (va : List (Key × Value)), KV (l.zip us) va → RepL C z H xs us → l.length = us.length → xs.all (fun v => v.dat 20) = true → PySem.W.KeqHits X.A.in1 s vb va (eqDG l xs l' ys)
  | [], xs, us, va, ra, _, _, _ => by
    cases ra
    exact .nil
  | k :: l, [], us, va, ra, rp, hl, _ => by cases rp; cases hl
  | k :: l, x :: xs, us, va, ra, rp, hl, hd => by
    cases rp with
    | @cons _ u _ us rx rxs =>
      rw [List.zip_cons_cons] at ra
      unfold KV at ra
      cases ra with
      | @cons _ q _ qs hq t =>
        obtain ⟨k1, v1⟩ := q
        obtain ⟨h1, h2⟩ := hq
        dsimp only at h1 h2
        subst h1
        simp only [List.all_cons, Bool.and_eq_true] at hd
        have ih := hits_dct hK hu I rb rpb db l xs us qs t rxs (by simpa using hl) hd.2
        have rv := rb.val k
        unfold eqDG
        cases e : lookK l' ys k with
        | none =>
          rw [look_none rpb e] at rv
          refine .miss ?_
          cases ev : valueAt vb k with
          | none => rfl
          | some y => rw [ev] at rv; exact rv.elim
        | some y =>
          obtain ⟨w, g1, g2⟩ := look_rep rpb e
          rw [g1] at rv
          obtain ⟨yv, hy, ry⟩ := rv.some_of
          have dy := List.all_eq_true.mp db y (look_mem e)
          obtain ⟨as, r1⟩ := Dp.reads I x.toD u v1 (by rw [hK]; exact rx.dp _ _ (isd_of hd.1)) h2
          obtain ⟨bs, r2⟩ := Dp.reads I y.toD w yv (by rw [hK]; exact g2.dp _ _ (isd_of dy)) ry
          have sa := shaped_of hd.1 (by omega)
          have sb := shaped_of dy (by omega)
          have q := SeqAt.eqAt_reads x.toD y.toD X.A.in1 s v1 yv as bs r1 r2 (SeqAt.canLay_of_shaped sa) (SeqAt.canLay_of_shaped sb) (SeqAt.room_of_shaped sa (by show X.A.units + 1 + 64 < cLine; omega))
          rw [eqv_toD x y (isd_of hd.1) (isd_of dy)] at q
          exact .hit hy q ih
/-- == and != of two dicts -/
theorem eqD_run {pins : List (Addr × Obj)} {σ : L2.St} {H : Hp} {s : Shared} {z : As} {a b : PV} {x y : V} {v u : Value} {k : Bool} (hK : X.K = C.K) (hu : X.A.units + 65 < cLine) (I : Inv X pins σ H s) (rx : RelV x v) (ry : RelV y u) (ta : Top C z H a x) (tb : Top C z H b y) (e : eqD a b = some k) :
    ∃ (p q : Addr) (va vb : List (Key × Value)) (r : Bool), v = .ref p ∧ u = .ref q ∧ (p == sysModules) = false ∧ (q == sysModules) = false ∧ s.heap.DictOf (mixKind X.prog X.w) p va ∧ s.heap.DictOf (mixKind X.prog X.w) q vb ∧ PySem.W.KeqHits X.A.in1 s vb va r ∧ (va.length == vb.length && r) = k := by
  unfold eqD at e
  split at e
  · rename_i ks xs ks' ys
    split at e
    · rename_i l l' h1 h2
      split at e
      · rename_i hd
        cases e
        obtain ⟨p, l0, us, rfl, rd, hk, hl, rp⟩ := ta.dcts
        obtain ⟨q, l1, us', rfl, rd', hk', hl', rp'⟩ := tb.dcts
        rw [h1] at hk; cases hk
        rw [h2] at hk'; cases hk'
        obtain ⟨_, n1, va, ra, da⟩ := dk_rd I.hok rd
        obtain ⟨_, n2, vb, rb, dbb⟩ := dk_rd I.hok rd'
        have ev : v = .ref p := rx
        have eu : u = .ref q := ry
        refine ⟨p, q, va, vb, _, ev, eu, n1, n2, da, dbb, hits_dct hK hu I rb rp' hd.2 l xs us va ra rp hl hd.1, ?_⟩
        have la : va.length = ks.length := by rw [← ra.length, List.length_zip, ← hl, Nat.min_self, keysOf_len0 h1]
        have lb : vb.length = ks'.length := by rw [← rb.length, List.length_zip, ← hl', Nat.min_self, keysOf_len0 h2]
        rw [la, lb]
        congr 1
      · cases e
    · cases e
  · cases e
theorem op_cmp {op : CmpOp} (hK : X.K = C.K) (hu : X.A.units + 65 < cLine) (gv : ∀ g v, C.gv g = some v → ∃ f, v = .ref f) : OpR X (compareOp op) (rCmp C op) := by
  intro pins s σ H x y v u Q I rx ry h
  obtain ⟨z, a, b, k, ta, tb, e, q⟩ := h
  have hu' : X.A.units + 64 < cLine := by omega
  cases op with
  | Eq =>
    simp only [cmpV] at e
    split at e
    · rename_i s t hs
      obtain ⟨rfl, rfl⟩ := strs_of hs
      obtain rfl := ta.str; obtain rfl := tb.str
      cases e
      refine op_eq pins _ σ H _ _ v u Q I rx ry ⟨rfl, ?_⟩
      simpa using q
    split at e
    · rename_i hc
      rw [Bool.and_eq_true] at hc
      refine op_eqD hu' pins s σ H x y v u Q I rx ry ⟨a.toD, b.toD, by rw [hK]; exact ta.dp (isd_of hc.1), by rw [hK]; exact tb.dp (isd_of hc.2), shaped_of hc.1 (by omega), shaped_of hc.2 (by omega), ?_⟩
      rw [eqv_toD a b (isd_of hc.1) (isd_of hc.2), Option.some.inj e]; exact q
    · split at e
      · exact (ta.nocas (by assumption)).elim
      · obtain ⟨p, q', va, vb, r, rfl, rfl, n1, n2, da, db, hh, er⟩ := eqD_run hK hu I rx ry ta tb e
        exact PySem.W.keq_eq n1 n2 da db (by omega) (fun _ => hh) ⟨.bl k, H, I, by rw [er]; rfl, q⟩
  | NotEq =>
    simp only [cmpV] at e
    split at e
    · rename_i s t hs
      obtain ⟨rfl, rfl⟩ := strs_of hs
      obtain rfl := ta.str; obtain rfl := tb.str
      cases e
      refine op_ne pins _ σ H _ _ v u Q I rx ry ⟨rfl, ?_⟩
      simpa using q
    split at e
    · rename_i hc
      rw [Bool.and_eq_true] at hc
      refine op_neD hu' pins s σ H x y v u Q I rx ry ⟨a.toD, b.toD, by rw [hK]; exact ta.dp (isd_of hc.1), by rw [hK]; exact tb.dp (isd_of hc.2), shaped_of hc.1 (by omega), shaped_of hc.2 (by omega), ?_⟩
      rw [eqv_toD a b (isd_of hc.1) (isd_of hc.2), Option.some.inj e]; exact q
    · split at e
      · exact (ta.nocas (by assumption)).elim
      · obtain ⟨k', e1, e2⟩ := Option.map_eq_some_iff.mp e
        obtain ⟨p, q', va, vb, r, rfl, rfl, n1, n2, da, db, hh, er⟩ := eqD_run hK hu I rx ry ta tb e1
        exact PySem.W.keq_ne n1 n2 da db (by omega) (fun _ => hh) ⟨.bl k, H, I, by rw [er, e2]; rfl, q⟩
  | Is =>
    cases b <;> simp only [cmpV, reduceCtorEq] at e
    obtain rfl := tb.non
    refine op_isN pins s σ H x _ v u Q I rx ry ⟨rfl, ?_⟩
    rw [top_not_none ta gv e]; exact q
  | IsNot =>
    cases b <;> simp only [cmpV, reduceCtorEq] at e
    obtain rfl := tb.non
    refine op_notN pins s σ H x _ v u Q I rx ry ⟨rfl, ?_⟩
    obtain ⟨k', e1, e2⟩ := Option.map_eq_some_iff.mp e
    rw [top_not_none ta gv e1, e2]; exact q
  | In => exact in_all hK hu (.inl rfl) I rx ry ta tb e q
  | NotIn =>
    simp only [cmpV, Option.map_eq_some_iff] at e
    obtain ⟨k', e1, e2⟩ := e
    subst e2
    exact in_all hK hu (.inr rfl) I rx ry ta tb e1 q
  | Lt =>
    cases a <;> cases b <;> simp only [cmpV, reduceCtorEq, Option.some.injEq] at e
    · subst e; obtain rfl := ta.int; obtain rfl := tb.int
      exact op_lt pins s σ H _ _ v u Q I rx ry ⟨_, _, rfl, rfl, q⟩
    · subst e; obtain rfl := ta.str; obtain rfl := tb.str
      exact op_lt_str pins s σ H _ _ v u Q I rx ry ⟨_, _, rfl, rfl, q⟩
  | LtE =>
    cases a <;> cases b <;> simp only [cmpV, reduceCtorEq, Option.some.injEq] at e
    · subst e; obtain rfl := ta.int; obtain rfl := tb.int
      exact op_le pins s σ H _ _ v u Q I rx ry ⟨_, _, rfl, rfl, q⟩
    · subst e; obtain rfl := ta.str; obtain rfl := tb.str
      exact op_le_str pins s σ H _ _ v u Q I rx ry ⟨_, _, rfl, rfl, q⟩
  | Gt =>
    cases a <;> cases b <;> simp only [cmpV, reduceCtorEq, Option.some.injEq] at e
    subst e; obtain rfl := ta.int; obtain rfl := tb.int
    exact op_gt pins s σ H _ _ v u Q I rx ry ⟨_, _, rfl, rfl, q⟩
  | GtE =>
    cases a <;> cases b <;> simp only [cmpV, reduceCtorEq, Option.some.injEq] at e
    subst e; obtain rfl := ta.int; obtain rfl := tb.int
    exact op_ge pins s σ H _ _ v u Q I rx ry ⟨_, _, rfl, rfl, q⟩
theorem tru_of {z : As} {H : Hp} {a : PV} {x : V} {k : Bool} (ta : Top C z H a x) (e : truV a = some k) : TruV C.K x H k := by
  cases a with
  | non => obtain rfl := ta.non; cases e; rfl
  | bl b => obtain rfl := ta.bl; cases e; rfl
  | int i => obtain rfl := ta.int; cases e; rfl
  | str t =>
    obtain rfl := ta.str
    simp only [truV] at e
    split at e
    · rename_i hl; cases e
      refine ⟨hl, ?_⟩
      by_cases h0 : t.length = 0
      · simp [h0]
      · have : ((t.length : Int) != 0) = true := by simp; omega
        rw [this]; simp [h0]
    · cases e
  | tup xs =>
    obtain ⟨p, vs, rfl, sq, rp⟩ := ta.tup
    cases e
    refine .inr (.inl ⟨vs, sq, ?_⟩)
    have := rp.length
    cases xs <;> cases vs <;> simp at this ⊢
  | lst xs =>
    obtain ⟨p, vs, rfl, sq, rp⟩ := ta.lsts
    cases e
    refine .inl ⟨vs, .of sq, ?_⟩
    have := rp.length
    cases xs <;> cases vs <;> simp at this ⊢
  | _ => simp [truV] at e
end
end Mp

/-! MpB: built-ins by values; what loops walk. -/
namespace Mp
open PySem PySem.Spec PyProof.Rows L2

def biName : Bi → Str
  | .len => "len" | .abs => "abs" | .int => "int" | .max => "max" | .min => "min" | .tuple => "tuple" | .list => "list" | .all => "all" | .any => "any" | .repr => "repr" | .sum => "sum" | .isi => "isinstance" | .srt => "sorted"
def biVal : Bi → Value
  | .len => .builtin "len" | .abs => .builtin "abs" | .int => .type "int" | .max => .builtin "max" | .min => .builtin "min" | .tuple => .type "tuple" | .list => .type "list" | .all => .builtin "all" | .any => .builtin "any" | .repr => .builtin "repr" | .sum => .builtin "sum" | .isi => .builtin "isinstance" | .srt => .builtin "sorted"
theorem bi_boot : ∀ b, bootBuiltins (biName b) = some (biVal b)
  | .len => by decide +kernel
  | .abs => by decide +kernel
  | .int => by decide +kernel
  | .max => by decide +kernel
  | .min => by decide +kernel
  | .tuple => by decide +kernel
  | .list => by decide +kernel
  | .all => by decide +kernel
  | .any => by decide +kernel
  | .repr => by decide +kernel
  | .sum => by decide +kernel
  | .isi => by decide +kernel
  | .srt => by decide +kernel
section
variable {C : Ctx} {X : Cx} {z : As} {H : Hp}
def rBi (C : Ctx) (b : Bi) : List V → Hp → VK → Prop := fun xs H Q => ∃ z us r, TopL C z H us xs ∧ biV b us = some r ∧ ∀ w H', Ans C z H r w H' → Q w H'
theorem TopL.one {x : PV} {vs : List V} (h : TopL C z H [x] vs) : ∃ v, vs = [v] ∧ Top C z H x v := by
  cases h with | cons a b => cases b; exact ⟨_, rfl, a⟩
theorem TopL.two {x y : PV} {vs : List V} (h : TopL C z H [x, y] vs) : ∃ v w, vs = [v, w] ∧ Top C z H x v ∧ Top C z H y w := by
  cases h with | cons a b => cases b with | cons c d => cases d; exact ⟨_, _, rfl, a, c⟩
theorem bools_rep : ∀ {xs : List PV} {bs : List Bool} {vs : List V}, bools xs = some bs → RepL C z H xs vs → vs = bs.map V.bl
  | [], bs, vs, e, r => by cases r; cases e; rfl
  | x :: xs, bs, vs, e, r => by
    cases x with
    | bl b =>
      unfold bools at e
      cases q : bools xs with
      | none => rw [q] at e; cases e
      | some l =>
        rw [q] at e
        cases e
        cases r with
        | cons a r => cases a; rw [bools_rep q r]; rfl
    | _ => simp [bools] at e
theorem ints_rep : ∀ {xs : List PV} {bs : List Int} {vs : List V}, intsOf xs = some bs → RepL C z H xs vs → vs = bs.map V.int
  | [], bs, vs, e, r => by cases r; cases e; rfl
  | x :: xs, bs, vs, e, r => by
    cases x with
    | int b =>
      unfold intsOf at e
      cases q : intsOf xs with
      | none => rw [q] at e; cases e
      | some l =>
        rw [q] at e
        cases e
        cases r with
        | cons a r => cases a; rw [ints_rep q r]; rfl
    | _ => simp [intsOf] at e
def tyName : PV → String
  | .non => "NoneType"
  | .bl _ => "bool"
  | .int _ => "int"
  | .str _ => "str"
  | .tup _ => "tuple"
  | .lst _ => "list"
  | .ty _ => ""
  | .fn _ => ""
  | .frz _ => ""
  | .dct _ _ => "dict"
  | .ins _ _ => ""
  | .cas _ _ => ""
  | .dic _ => ""
theorem tyX_sq {a : Addr} {vs : List V} {K : PySem.W.Frag} (s : SqT K H a vs) : TyX K H (.ref a) (.type "tuple") := by
  rcases s with (s | ⟨o, s⟩) | ⟨o, its, n, h1, h2, _⟩
  · exact .base (.tup s)
  · exact .fTuple s
  · exact .kTuple h1 h2
theorem tyX_of {x : PV} {v : V} (t : Top C z H x v) (h : tyName x ≠ "") : TyX C.K H v (.type (tyName x)) := by
  cases x with
  | non => obtain rfl := t.non; exact .base .non
  | bl b => obtain rfl := t.bl; exact .base (.bl _)
  | int i => obtain rfl := t.int; exact .base (.int _)
  | str s => obtain rfl := t.str; exact .base (.str _)
  | tup xs => obtain ⟨a, vs, rfl, s, _⟩ := t.tup; exact tyX_sq s
  | lst xs => obtain ⟨a, vs, rfl, s, _⟩ := t.lsts; exact .base (.lst s)
  | ty n => exact absurd rfl h
  | fn g => exact absurd rfl h
  | frz g => exact absurd rfl h
  | dct ks xs =>
    obtain ⟨a, l, vs, rfl, s | ⟨o, s⟩, _⟩ := t.dcts
    · exact .base (.dK s)
    · exact .fDict s
  | ins _ _ => exact absurd rfl h
  | cas _ _ => exact absurd rfl h
  | dic _ => exact absurd rfl h
def isiN (t n : String) : Option Bool :=
  if t = "" then none
  else if n = "int" then some (t = "int" || t = "bool")
  else if n = "bool" || n = "str" || n = "tuple" || n = "list" || n = "dict" then some (decide (t = n)) else none
theorem isiV_eq (x : PV) (n : String) : isiV x n = isiN (tyName x) n := by cases x <;> rfl
theorem isi_kit {x : PV} {n : String} {b : Bool} (h : isiN (tyName x) n = some b) : kitB (tyName x) n = some b := by
  have key : ∀ t : String, t ∈ ["NoneType", "bool", "int", "str", "tuple", "list", "dict"] → ∀ n : String, n ∈ ["int", "bool", "str", "tuple", "list", "dict"] → isiN t n = kitB t n := by decide +kernel
  have hn : n ∈ ["int", "bool", "str", "tuple", "list", "dict"] := by
    unfold isiN at h
    split at h
    · cases h
    · split at h
      · rename_i e; subst e; decide
      · split at h
        · rename_i e
          simp only [Bool.or_eq_true, decide_eq_true_eq] at e
          rcases e with (((e | e) | e) | e) | e <;> subst e <;> decide
        · cases h
  have ht : tyName x ≠ "" := fun e => by rw [e] at h; simp [isiN] at h
  rw [← key (tyName x) (by cases x <;> first | (simp [tyName]; done) | exact absurd rfl ht) n hn]
  exact h
mutual
theorem reads_nol : ∀ (x : PV) {h : Heap} {u : Value} {as : List Addr}, Reads h u x.toD as → x.isd = true → x.nol = true → as = []
  | .non, _, _, _, r, _, _ => by cases r; rfl
  | .bl _, _, _, _, r, _, _ => by cases r; rfl
  | .int _, _, _, _, r, _, _ => by cases r; rfl
  | .str _, _, _, _, r, _, _ => by cases r; rfl
  | .tup xs, _, _, _, r, d, n => by
    simp only [PV.toD] at r
    cases r with | tuple a b c e => exact reads_nolL xs e d n
  | .lst xs, _, _, _, r, d, n => by simp [PV.nol] at n
  | .ty _, _, _, _, _, d, _ => by simp [PV.isd] at d
  | .fn _, _, _, _, _, d, _ => by simp [PV.isd] at d
  | .frz _, _, _, _, _, d, _ => by simp [PV.isd] at d
  | .dct _ _, _, _, _, _, d, _ => by simp [PV.isd] at d
  | .ins _ _, _, _, _, _, d, _ => by simp [PV.isd] at d
  | .cas _ _, _, _, _, _, d, _ => by simp [PV.isd] at d
  | .dic _, _, _, _, _, d, _ => by simp [PV.isd] at d
theorem reads_nolL : ∀ (xs : List PV) {h : Heap} {us : List Value} {as : List Addr}, ReadsAll h us (PV.toDs xs) as → PV.isdL xs = true → PV.nolL xs = true → as = []
  | [], _, _, _, r, _, _ => by cases r; rfl
  | x :: xs, _, _, _, r, d, n => by
    simp only [PV.isdL, PV.nolL, Bool.and_eq_true] at d n
    simp only [PV.toDs] at r
    cases r with | cons a b => rw [reads_nol x a d.1 n.1, reads_nolL xs b d.2 n.2]; rfl
end
theorem keys_nol : ∀ {ks : List PV} {l : List Key}, keysOf ks = some l → PV.nolL ks = true
  | [], _, _ => rfl
  | k :: ks, l, h => by
    simp only [keysOf] at h
    split at h
    · rename_i a b h1 h2
      simp only [PV.nolL, keys_nol h2, Bool.and_true]
      cases k <;> simp [keyOf] at h1 <;> rfl
    · cases h
theorem toDs_len : ∀ xs : List PV, (PV.toDs xs).length = xs.length
  | [] => rfl
  | _ :: xs => by simp [PV.toDs, toDs_len xs]
theorem keys_read {h : Heap} : ∀ {ks : List PV} {l : List Key} {es : List DictEntry} {kvs : List (Key × Value)} {vs : List V}, keysOf ks = some l → KV (l.zip vs) kvs → l.length = vs.length → PySem.Pairs (mixKind C.P C.w) es kvs → ∃ as, ReadsAll h (es.map (·.key)) (PV.toDs ks) as
  | [], _, es, kvs, vs, h1, h2, h3, h4 => by
    cases h1
    cases vs with
    | nil => cases h2; cases h4; exact ⟨_, .nil⟩
    | cons _ _ => cases h3
  | k :: ks, l, es, kvs, vs, h1, h2, h3, h4 => by
    simp only [keysOf] at h1
    split at h1
    · rename_i a b q1 q2
      cases h1
      cases vs with
      | nil => cases h3
      | cons v vs =>
        cases h2 with
        | cons r1 r2 =>
          cases h4 with
          | cons p1 p2 p3 =>
            obtain ⟨as, ih⟩ := keys_read q2 r2 (by simpa using h3) p3
            have p1' := p1
            rw [mixKind_is, ← r1.1] at p1'
            have hk : ∀ u : Value, keyIs a u = true → ∃ as, Reads h u k.toD as := by
              intro u p1'
              rcases keyIs_shape p1' with ⟨i, t, e1, e2⟩ | ⟨x, t, e1, e2⟩
              · rw [e2]
                cases k <;> simp [keyOf] at q1
                · rw [← q1] at e1; cases e1; exact ⟨_, .int _ _⟩
                · rw [← q1] at e1; cases e1
              · rw [e2]
                cases k <;> simp [keyOf] at q1
                · rw [← q1] at e1; cases e1
                · rw [← q1] at e1; cases e1; exact ⟨_, .str _ _⟩
            obtain ⟨bs, hk⟩ := hk _ p1'
            exact ⟨_, .cons hk ih⟩
    · cases h1
theorem kv_vals {P : Program} {w : World} : ∀ {l : List Key} {es : List DictEntry} {kvs : List (Key × Value)} {vs : List V}, KV (l.zip vs) kvs → l.length = vs.length → PySem.Pairs (mixKind P w) es kvs → Vals vs (es.map (·.val))
  | [], es, kvs, [], h2, h3, h4 => by cases h2; cases h4; exact .nil
  | [], _, _, _ :: _, _, h3, _ => by cases h3
  | _ :: _, _, _, [], _, h3, _ => by cases h3
  | k :: l, es, kvs, v :: vs, h2, h3, h4 => by
    cases h2 with
    | cons r1 r2 =>
      cases h4 with
      | cons p1 p2 p3 =>
        refine .cons ?_ (kv_vals r2 (by simpa using h3) p3)
        show RelV v _
        dsimp only
        rw [p2]; exact r1.2
theorem zipD_fst : ∀ (a b : List PyData), a.length = b.length → (a.zip b).map (·.1) = a
  | [], [], _ => rfl
  | x :: xs, y :: ys, h => by simp [zipD_fst xs ys (by simpa using h)]
theorem zipD_snd : ∀ (a b : List PyData), a.length = b.length → (a.zip b).map (·.2) = b
  | [], [], _ => rfl
  | x :: xs, y :: ys, h => by simp [zipD_snd xs ys (by simpa using h)]
theorem keysOf_len : ∀ {ks : List PV} {l : List Key}, keysOf ks = some l → l.length = ks.length
  | [], _, h => by cases h; rfl
  | k :: ks, l, h => by
    simp only [keysOf] at h
    split at h
    · rename_i a b h1 h2; cases h; simp [keysOf_len h2]
    · cases h
theorem rpt_reads {x : PV} {v : V} {u : Value} {pins : List (Addr × Obj)} {σ : L2.St} {s : Shared} (hK : X.K = C.K) (hP : X.prog = C.P) (hw : X.w = C.w) (I : Inv X pins σ H s) (t : Top C z H x v) (r : RelV v u) (h : x.rpt = true) :
    ∃ as, Reads s.heap u x.toD as ∧ (x.toD.hasDict = true → sysModules ∉ as) ∧ x.toD.depth ≤ 20 := by
  have plain : x.dat 20 = true → ∃ as, Reads s.heap u x.toD as ∧ (x.toD.hasDict = true → sysModules ∉ as) ∧ x.toD.depth ≤ 20 := fun h => by
    have hi := isd_of h
    obtain ⟨as, rd⟩ := Dp.reads I x.toD v u (by rw [hK]; exact t.dp hi) r
    refine ⟨as, rd, PyData.noDict_hsm (PyData.hasDict_of_canLay _ (canLay_toD x hi)), ?_⟩
    rw [dep_toD x hi]
    unfold PV.dat at h
    exact of_decide_eq_true (Bool.and_eq_true_iff.mp h).2
  cases x with
  | dct ks xs =>
    simp only [PV.rpt, Bool.and_eq_true, decide_eq_true_eq] at h
    obtain ⟨⟨⟨⟨h1, h2⟩, h3⟩, h4⟩, h5⟩ := h
    obtain ⟨a, l, vs, rfl, ha, hk, hl, rp⟩ := t.dcts
    cases r
    have ok := ha.ok I.hok
    obtain ⟨_, hs, ws, kv, o, es, ep, hg, ex, hd, _, pr, _⟩ := ok
    rw [hP, hw] at pr
    unfold PV.datL at h2 h3
    simp only [Bool.and_eq_true, decide_eq_true_eq] at h2 h3
    obtain ⟨as, ra⟩ := keys_read (h := s.heap) hk kv hl pr
    obtain ⟨bs, rb⟩ := Dp.readsAll I (PV.toDs xs) vs _ (by rw [hK]; exact RepL.dp xs vs rp h3.1) (kv_vals kv hl pr)
    have e1 : (PV.toDs ks).length = (PV.toDs xs).length := by rw [toDs_len, toDs_len, h5]
    have ea := reads_nolL ks ra h2.1 (keys_nol hk)
    have eb := reads_nolL xs rb h3.1 h4
    refine ⟨_, Reads.dict (kvs := (PV.toDs ks).zip (PV.toDs xs)) hg ex.1 hd (by rw [zipD_fst _ _ e1]; exact ra) (by rw [zipD_snd _ _ e1]; exact rb), fun _ hm => ?_, ?_⟩
    · rw [ea, eb] at hm
      simp only [List.append_nil, List.mem_singleton] at hm
      rw [hm] at hs
      simp at hs
    · have key : ∀ (p q : List PyData), PyData.depthKv (p.zip q) ≤ max (PyData.depthAll p) (PyData.depthAll q) := by
        intro p
        induction p with
        | nil => intro q; simp [PyData.depthKv]
        | cons a p ih =>
          intro q
          cases q with
          | nil => simp [PyData.depthKv]
          | cons b q =>
            have := ih q
            simp only [List.zip_cons_cons, PyData.depthKv, PyData.depthAll]
            omega
      have := key (PV.toDs ks) (PV.toDs xs)
      simp only [PV.toD, PyData.depth]
      rw [dep_toDs ks h2.1, dep_toDs xs h3.1] at this
      omega
  | _ => exact plain h
theorem insS_perm (x : Str) : ∀ l, (insS x l).Perm (x :: l)
  | [] => .refl _
  | y :: r => by
    unfold insS
    split
    · exact (List.Perm.cons y (insS_perm x r)).trans (List.Perm.swap x y r)
    · exact .refl _
theorem isortS_perm : ∀ l, (isortS l).Perm l
  | [] => .refl _
  | x :: r => by
    unfold isortS
    exact (insS_perm x _).trans (List.Perm.cons x (isortS_perm r))
def leS (a b : Str) : Prop := Spec.ltCps b.cps.toList a.cps.toList = false
theorem leS_iff {a b : Str} : leS a b ↔ a.cps.toList ≤ b.cps.toList := by
  unfold leS
  rw [ltCps_eq, decide_eq_false_iff_not, List.not_lt]
theorem rising_pw : ∀ (l : List Str) (p : Str), risingS p l = true → (p :: l).Pairwise leS
  | [], p, _ => List.pairwise_singleton _ _
  | x :: r, p, h => by
    simp only [risingS, Bool.and_eq_true, Bool.not_eq_true'] at h
    have ih := rising_pw r x h.2
    have hx : leS p x := h.1
    refine List.pairwise_cons.mpr ⟨fun y hy => ?_, ih⟩
    rcases List.mem_cons.mp hy with e | e
    · rw [e]; exact hx
    · exact leS_iff.mpr (List.le_trans (leS_iff.mp hx) (leS_iff.mp ((List.pairwise_cons.mp ih).1 y e)))
theorem sorted_pw : ∀ {l : List Str}, sortedS l = true → l.Pairwise leS
  | [], _ => .nil
  | x :: r, h => rising_pw r x h
theorem sorted_uniq {l m : List Str} (h1 : sortedS l = true) (h2 : sortedS m = true) (p : l.Perm m) : l = m := by
  refine p.eq_of_pairwise (le := leS) (fun a b _ _ h1 h2 => ?_) (sorted_pw h1) (sorted_pw h2)
  have e := List.le_antisymm (leS_iff.mp h1) (leS_iff.mp h2)
  have e2 : a.cps = b.cps := Array.toList_inj.mp e
  cases a; cases b; cases e2; rfl
theorem strs_rep : ∀ {xs : List PV} {bs : List Str} {vs : List V}, strsOf xs = some bs → RepL C z H xs vs → vs = bs.map V.str
  | [], bs, vs, e, r => by cases r; cases e; rfl
  | x :: xs, bs, vs, e, r => by
    cases x with
    | str b =>
      unfold strsOf at e
      cases q : strsOf xs with
      | none => rw [q] at e; cases e
      | some l =>
        rw [q] at e
        cases e
        cases r with
        | cons a r => cases a; rw [strs_rep q r]; rfl
    | _ => simp [strsOf] at e
theorem strs_repL : ∀ (ss : List Str), RepL C z H (ss.map PV.str) (ss.map V.str)
  | [] => .nil
  | s :: ss => .cons (.str s) (strs_repL ss)
theorem strs_keys : ∀ {ks : List PV} {l : List Key} {ss : List Str}, keysOf ks = some l → strsOf ks = some ss → l = ss.map Sum.inr
  | [], l, ss, e1, e2 => by cases e1; cases e2; rfl
  | x :: xs, l, ss, e1, e2 => by
    cases x with
    | str b =>
      unfold strsOf at e2
      simp only [keysOf, keyOf] at e1
      cases q : strsOf xs with
      | none => rw [q] at e2; cases e2
      | some m =>
        rw [q] at e2
        cases e2
        cases q2 : keysOf xs with
        | none => rw [q2] at e1; cases e1
        | some n =>
          rw [q2] at e1
          cases e1
          rw [strs_keys q2 q]; rfl
    | _ => simp [strsOf] at e2
theorem call_bi {b : Bi} (hK : X.K = C.K) (hP : X.prog = C.P) (hw : X.w = C.w) (hc : X.calm = true) (hg : X.A.guards = some []) (hu : X.A.units + 65 < cLine) : CallR X (biVal b) (rBi C b) := by
  intro pins s σ H xs us Q I r h
  obtain ⟨z, ps, res, tl, e, q⟩ := h
  cases b with
  | len =>
    match ps, tl, e with
    | [.tup l], tl, e =>
      cases e
      obtain ⟨v, rfl, t⟩ := tl.one
      obtain ⟨a, vs, rfl, sq, rp⟩ := t.tup
      exact call_len pins s σ H _ us Q I r ⟨_, l.length, rfl, .inr ⟨vs, by rw [hK]; exact sq, rp.length⟩, q _ _ (.same (.int _))⟩
    | [.lst l], tl, e =>
      cases e
      obtain ⟨v, rfl, t⟩ := tl.one
      obtain ⟨a, vs, rfl, sq, rp⟩ := t.lsts
      exact call_len pins s σ H _ us Q I r ⟨_, l.length, rfl, .inl ⟨vs, .of sq, rp.length⟩, q _ _ (.same (.int _))⟩
    | [.frz l], tl, e =>
      cases e
      obtain ⟨v, rfl, t⟩ := tl.one
      obtain ⟨a, vs, rfl, sq, rp⟩ := t.frz
      exact call_len pins s σ H _ us Q I r ⟨_, l.length, rfl, .inl ⟨vs, by rw [hK]; exact sq.sql, rp.length⟩, q _ _ (.same (.int _))⟩
    | [.dct ks xs], tl, e =>
      cases e
      obtain ⟨v, rfl, t⟩ := tl.one
      obtain ⟨a, l, vs, rfl, rd, hk, hl, rp⟩ := t.dcts
      obtain ⟨u, rfl, ru⟩ := vals1 r
      cases ru
      have e1 : (l.zip vs).length = ks.length := by rw [List.length_zip, ← hl, Nat.min_self, keysOf_len hk]
      exact d_len I rd fun t s' I' => ⟨.int ks.length, H, I', ⟨t, by rw [e1]⟩, q _ _ (.same (.int _))⟩
    | [.str l], tl, e =>
      simp only [biV] at e
      split at e
      · rename_i hl
        cases e
        obtain ⟨v, rfl, t⟩ := tl.one
        obtain rfl := t.str
        exact call_len pins s σ H _ us Q I r ⟨_, l.length, rfl, ⟨hl, rfl⟩, q _ _ (.same (.int _))⟩
      · cases e
  | abs =>
    match ps, tl, e with
    | [.int i], tl, e =>
      cases e
      obtain ⟨v, rfl, t⟩ := tl.one
      obtain rfl := t.int
      exact call_abs pins s σ H _ us Q I r ⟨i, rfl, q _ _ (.same (.int _))⟩
  | int =>
    match ps, tl, e with
    | [.int i], tl, e =>
      cases e
      obtain ⟨v, rfl, t⟩ := tl.one
      obtain rfl := t.int
      exact call_int1 pins s σ H _ us Q I r (.inl ⟨i, rfl, q _ _ (.same (.int _))⟩)
    | [.bl i], tl, e =>
      cases e
      obtain ⟨v, rfl, t⟩ := tl.one
      obtain rfl := t.bl
      exact call_int1 pins s σ H _ us Q I r (.inr ⟨i, rfl, q _ _ (.same (.int _))⟩)
  | max =>
    match ps, tl, e with
    | [.int i, .int j], tl, e =>
      cases e
      obtain ⟨v, w, rfl, t, t2⟩ := tl.two
      obtain rfl := t.int
      obtain rfl := t2.int
      exact call_max2 hc pins s σ H _ us Q I r ⟨i, j, rfl, q _ _ (.same (.int _))⟩
  | min =>
    match ps, tl, e with
    | [.int i, .int j], tl, e =>
      cases e
      obtain ⟨v, w, rfl, t, t2⟩ := tl.two
      obtain rfl := t.int
      obtain rfl := t2.int
      exact call_min2 hc pins s σ H _ us Q I r ⟨i, j, rfl, q _ _ (.same (.int _))⟩
  | tuple =>
    match ps, tl, e with
    | [.tup l], tl, e =>
      cases e
      obtain ⟨v, rfl, t⟩ := tl.one
      obtain ⟨a, vs, rfl, sq, rp⟩ := t.tup
      exact call_tuple_of pins s σ H _ us Q I r ⟨a, vs, rfl, .inr ⟨by rw [hK]; exact sq, q _ _ (.same (.tup sq rp))⟩⟩
    | [.lst l], tl, e =>
      cases e
      obtain ⟨v, rfl, t⟩ := tl.one
      obtain ⟨a, vs, rfl, sq, rp⟩ := t.lsts
      exact call_tuple_of pins s σ H _ us Q I r ⟨a, vs, rfl, .inl ⟨.of sq, fun p n => q _ _ (.tup n rp)⟩⟩
  | list =>
    match ps, tl, e with
    | [.tup l], tl, e =>
      cases e
      obtain ⟨v, rfl, t⟩ := tl.one
      obtain ⟨a, vs, rfl, sq, rp⟩ := t.tup
      exact call_list_of pins s σ H _ us Q I r ⟨a, vs, rfl, .inr (by rw [hK]; exact sq), fun p n => q _ _ (.lst n rp)⟩
    | [.lst l], tl, e =>
      cases e
      obtain ⟨v, rfl, t⟩ := tl.one
      obtain ⟨a, vs, rfl, sq, rp⟩ := t.lsts
      exact call_list_of pins s σ H _ us Q I r ⟨a, vs, rfl, .inl (.of sq), fun p n => q _ _ (.lst n rp)⟩
  | srt =>
    match ps, tl, e with
    | [.lst l], tl, e =>
      simp only [biV] at e
      split at e
      · rename_i ss hs
        split at e
        · rename_i hb
          cases e
          obtain ⟨v, rfl, t⟩ := tl.one
          obtain ⟨a, vs, rfl, sq, rp⟩ := t.lsts
          have ev := strs_rep hs rp
          subst ev
          refine cr_sortedS pins s σ H _ us Q I r ⟨a, ss, rfl, .of sq, hb.1, fun ys p py sy n => ?_⟩
          have ey : ys = isortS ss := sorted_uniq sy hb.2 (py.trans (isortS_perm ss).symm)
          subst ey
          exact q _ _ (.lst n (strs_repL _))
        · cases e
      · cases e
    | [.dct ks xs], tl, e =>
      simp only [biV] at e
      split at e
      · rename_i ss hs
        split at e
        · rename_i hb
          cases e
          obtain ⟨v, rfl, t⟩ := tl.one
          obtain ⟨a, l, vs, rfl, rd, hk, hl, rp⟩ := t.dcts
          have el : (l.zip vs).map (·.1) = ss.map Sum.inr := by rw [List.map_fst_zip (by omega), strs_keys hk hs]
          refine call_sortedD hc pins s σ H _ us Q I r ⟨a, l.zip vs, ss, rfl, rd, el, hb.1, fun ys p py sy n => ?_⟩
          have ey : ys = isortS ss := sorted_uniq sy hb.2 (py.trans (isortS_perm ss).symm)
          subst ey
          exact q _ _ (.lst n (strs_repL _))
        · cases e
      · cases e
  | all =>
    match ps, tl, e with
    | [.lst l], tl, e =>
      simp only [biV] at e
      split at e
      · rename_i bs hb
        cases e
        obtain ⟨v, rfl, t⟩ := tl.one
        obtain ⟨a, vs, rfl, sq, rp⟩ := t.lsts
        exact cr_all hc pins s σ H _ us Q I r ⟨a, bs, rfl, by rw [← bools_rep hb rp]; exact .of sq, q _ _ (.same (.bl _))⟩
      · cases e
  | any =>
    match ps, tl, e with
    | [.lst l], tl, e =>
      simp only [biV] at e
      split at e
      · rename_i bs hb
        cases e
        obtain ⟨v, rfl, t⟩ := tl.one
        obtain ⟨a, vs, rfl, sq, rp⟩ := t.lsts
        exact cr_any hc pins s σ H _ us Q I r ⟨a, bs, rfl, by rw [← bools_rep hb rp]; exact .of sq, q _ _ (.same (.bl _))⟩
      · cases e
  | sum =>
    match ps, tl, e with
    | [.lst l], tl, e =>
      simp only [biV] at e
      split at e
      · rename_i bs hb
        cases e
        obtain ⟨v, rfl, t⟩ := tl.one
        obtain ⟨a, vs, rfl, sq, rp⟩ := t.lsts
        exact cr_sum hc pins s σ H _ us Q I r ⟨a, bs, rfl, by rw [← ints_rep hb rp]; exact .of sq, q _ _ (.same (.int _))⟩
      · cases e
  | repr =>
    match ps, tl, e with
    | [x], tl, e =>
      simp only [biV] at e
      split at e
      · rename_i hc2
        simp only [Bool.and_eq_true, decide_eq_true_eq] at hc2
        cases e
        obtain ⟨v, rfl, t⟩ := tl.one
        obtain ⟨u, rfl, ru⟩ := vals1 r
        have q := q _ _ (.same (.str _))
        obtain ⟨as, rd, hsm, hd⟩ := rpt_reads hK hP hw I t ru hc2.1.1
        have fin : ∀ (h' : Heap) (w : Tok) (tk : Nat), (∀ b o, s.heap.get? b = some o → h'.get? b = some o) → EP X pins σ Q (.str x.toD.shown w) { s with heap := h', toks := tk } := fun h' w tk hk => ⟨.str x.toD.shown, H, I.kept (t' := tk) hk, ⟨_, rfl⟩, q⟩
        have ref : ∀ a, u = .ref a → wpAny (model X.prog X.w) X.A (call (.builtin "repr") [u]) (EP X pins σ Q) X.xe s := by
          rintro a rfl
          refine PySem.repr_of_reads' rd hc2.1.2 hsm hg ?_ (fun _ _ e => e) (fun h' w tk hk => fin h' w tk hk) hc2.2
          omega
        cases x with
        | non =>
          obtain rfl := t.non; cases ru
          exact PySem.P.repr_of_none (fin s.heap _ _ fun _ _ e => e)
        | bl b =>
          obtain rfl := t.bl; cases ru
          exact PySem.P.repr_of_bool (fin s.heap _ _ fun _ _ e => e)
        | int i =>
          obtain rfl := t.int; obtain ⟨tk, rfl⟩ := ru
          exact PySem.P.repr_of_int (by simpa [PV.toD, PyData.showable] using hc2.1.2) (fin s.heap _ _ fun _ _ e => e)
        | str i =>
          obtain rfl := t.str; obtain ⟨tk, rfl⟩ := ru
          exact PySem.P.repr_of_str (fin s.heap _ _ fun _ _ e => e) hc2.2
        | tup l => obtain ⟨a, vs, rfl, _, _⟩ := t.tup; cases ru; exact ref a rfl
        | lst l => obtain ⟨a, vs, rfl, _, _⟩ := t.lsts; cases ru; exact ref a rfl
        | dct ks l => obtain ⟨a, _, vs, rfl, _, _⟩ := t.dcts; cases ru; exact ref a rfl
        | ty n => simp [PV.rpt, PV.dat, PV.isd] at hc2
        | fn n => simp [PV.rpt, PV.dat, PV.isd] at hc2
        | frz n => simp [PV.rpt, PV.dat, PV.isd] at hc2
        | ins _ _ => simp [PV.rpt, PV.dat, PV.isd] at hc2
        | cas _ _ => simp [PV.rpt, PV.dat, PV.isd] at hc2
        | dic _ => simp [PV.rpt, PV.dat, PV.isd] at hc2
      · cases e
  | isi =>
    match ps, tl, e with
    | [x, .ty n], tl, e =>
      simp only [biV] at e
      split at e
      · rename_i b hb
        cases e
        obtain ⟨v, w, rfl, t, t2⟩ := tl.two
        obtain rfl := t2.ty
        rw [isiV_eq] at hb
        have ht : tyName x ≠ "" := fun e => by rw [e] at hb; simp [isiN] at hb
        exact call_isi pins s σ H _ us Q I r ⟨v, .ty n, .type (tyName x), .type n, b, rfl, .ty n, by rw [hK]; exact tyX_of t ht, kit_ty (isi_kit hb), q _ _ (.same (.bl _))⟩
      · cases e
end
end Mp

/-! MpI0: zip of lists and tuples in any mixture, enumerate of a list or a tuple: over the library's Draws. -/
namespace Mp
open PySem PySem.Spec PyProof.Rows L2 RZ
/-- a list's items, or (t) a tuple's -/
def SqB : Bool → PySem.W.Frag → Hp → Addr → List V → Prop
  | true => SqT
  | false => SqL
def IsB : Bool → Heap → Addr → Array Value → Prop
  | true => Heap.IsTuple
  | false => Heap.IsList
def ItB : Bool → Heap → Addr → Addr → Nat → Prop
  | true => Heap.IsTupleIter
  | false => Heap.IsListIter
def itO (t : Bool) (a : Addr) : Obj := { cls := .type (if t then "tuple_iterator" else "list_iterator"), data := .fields #[.ref a, .int 0 0] }
theorem ItB.at' {t : Bool} {h h' : Heap} {it a : Addr} {i : Nat} (x : ItB t h it a i) (k : ∀ o, h.get? it = some o → h'.get? it = some o) : ItB t h' it a i := by
  cases t with
  | true => exact Heap.IsTupleIter.at (h := h) x k
  | false => exact Heap.IsListIter.at (h := h) x k
theorem ItB.obj {t : Bool} {h : Heap} {it a : Addr} {i : Nat} (x : ItB t h it a i) : ∃ o, h.get? it = some o ∧ ∀ v, o.data ≠ .cell v := by
  cases t with
  | true => obtain ⟨o, e, _, d⟩ := x; exact ⟨o, e, fun v q => by rw [d] at q; cases q⟩
  | false => obtain ⟨o, e, _, d⟩ := x; exact ⟨o, e, fun v q => by rw [d] at q; cases q⟩
theorem ItB.first {t : Bool} {h : Heap} {it a : Addr} (e : h.get? it = some (itO t a)) : ItB t h it a 0 := by
  cases t with
  | true => exact ⟨_, e, rfl, rfl⟩
  | false => exact ⟨_, e, rfl, rfl⟩
theorem draws_b (t : Bool) {prog : Program} {w : World} {A : Around} (hh : A.handled = none) (it a : Addr) (hne : a ≠ it) (items : Array Value) : Draws prog w A it [it, a] items.size (fun i v => items[i]? = some v) (fun i h => ItB t h it a i ∧ IsB t h a items) := by
  cases t with
  | true => exact Draws.tuple hh it a hne items
  | false => exact Draws.list hh it a hne items
theorem begins_b (t : Bool) (a : Addr) (items : Array Value) : Begins (.ref a) (itO t a) fun h => IsB t h a items := by
  cases t with
  | true => exact begins_tuple a items
  | false => exact begins_list a items
section
variable {X : Cx} {pins : List (Addr × Obj)} {σ : L2.St} {H : Hp} {s : Shared}
theorem sqB_items {t : Bool} {a : Addr} {xs : List V} (I : Inv X pins σ H s) (h : SqB t X.K H a xs) : ∃ its : List Value, Vals xs its ∧ IsB t s.heap a its.toArray ∧ a < s.heap.objs.size := by
  cases t with
  | true =>
    obtain ⟨its, r, p, _⟩ := I.tuple h
    have p0 := p
    obtain ⟨o, e, _⟩ := p0
    exact ⟨its, r, p, Heap.lt_size e⟩
  | false =>
    obtain ⟨its, r, p, _⟩ := I.list h
    exact ⟨its, r, p.isList, p.lt⟩
theorem sqB_inj {t : Bool} {a : Addr} {xs ys : List V} (I : Inv X pins σ H s) (h : SqB t X.K H a xs) (h' : SqB t X.K H a ys) : xs = ys := by
  cases t with
  | true => exact I.tuple_inj h h'
  | false => exact I.list_inj h h'
end
/-! ### zip -/
/-- what stands at a and b, in new pairs -/
def ItP (K : PySem.W.Frag) (t u : Bool) (a b : Addr) : It :=
  ⟨fun i H => ∃ xs ys : List V, SqB t K H a xs ∧ SqB u K H b ys ∧ i < min xs.length ys.length,
    fun i H v H' => ∃ T x y, v = .ref T ∧ H T = none ∧ H' = upd H T (.tup [x, y]) ∧ (∀ xs, SqB t K H a xs → xs[i]? = some x) ∧ ∀ ys, SqB u K H b ys → ys[i]? = some y,
    fun i H => ∃ xs ys : List V, SqB t K H a xs ∧ SqB u K H b ys ∧ i = min xs.length ys.length⟩
theorem turn_p {P : Program} {w : World} {K : PySem.W.Frag} {elts : List Expr} {kk : Nat} {tpos : Pos} {t u : Bool} {a b z TI TO i1 i2 : Addr} (S : ZipSep2 z TI TO i1 i2 [i1, a] [i2, b]) (ha : a ≠ i1) (hb : b ≠ i2) :
    Turn P w K (.Tuple elts kk tpos) (ItP K t u a b) [z, TI, TO, i1, i2] z (fun i h => IsZip h z TI TO .none ∧ IsTupOf2 h TI (.ref i1) (.ref i2) ∧ (∃ x y, IsTupOf2 h TO x y) ∧ ItB t h i1 a i ∧ ItB u h i2 b i) where
  mem := List.mem_cons_self
  obj := fun i h ⟨hz, hTI, ⟨x, y, hTO⟩, h1, h2⟩ c hc => by
    simp only [List.mem_cons, List.not_mem_nil, or_false] at hc
    rcases hc with rfl | rfl | rfl | rfl | rfl
    · exact ⟨_, hz, fun v q => nomatch q⟩
    · exact ⟨_, hTI, fun v q => nomatch q⟩
    · exact ⟨_, hTO, fun v q => nomatch q⟩
    · exact h1.obj
    · exact h2.obj
  keep := fun i h h' ⟨hz, hTI, ⟨x, y, hTO⟩, h1, h2⟩ k =>
    ⟨k _ (by simp) _ hz, k _ (by simp) _ hTI, ⟨x, y, k _ (by simp) _ hTO⟩, h1.at' fun o q => k _ (by simp) o q, h2.at' fun o q => k _ (by simp) o q⟩
  item := by
    intro X hP hw hK hc i pins s σ H E I hf ⟨hz, hTI, ⟨x0, y0, hTO⟩, h1, h2⟩ ⟨xs, ys, qx, qy, hi⟩
    subst hP hw hK
    obtain ⟨l1, r1, p1, _⟩ := sqB_items I qx
    obtain ⟨l2, r2, p2, _⟩ := sqB_items I qy
    have e1 := r1.length
    have e2 := r2.length
    have hd : X.A.in1.handled = none := I.ok.hd hc
    have lt : ∀ {c : Addr} {o : Obj}, s.heap.get? c = some o → c < s.heap.objs.size := fun e => Heap.lt_size e
    refine wpAny_pyNext_zipD2_item S (draws_b t hd i1 a ha l1.toArray) (draws_b u hd i2 b hb l2.toArray) hz hTI hTO ⟨h1, p1⟩ ⟨h2, p2⟩ (by simp; omega) (by simp; omega) fun x1 x2 h' tk g1 g2 hz' hTO' st1 st2 hT hsz hk => ?_
    refine ⟨_, rfl, wpAny_letOwnedTupleGo_zip (s := { s with heap := h', toks := tk }) hz' fun h2' z' sb => ?_⟩
    obtain ⟨x, hx⟩ : ∃ x, xs[i]? = some x := ⟨_, List.getElem?_eq_getElem (by omega)⟩
    obtain ⟨y, hy⟩ : ∃ y, ys[i]? = some y := ⟨_, List.getElem?_eq_getElem (by omega)⟩
    obtain ⟨v1, f1, rv1⟩ := r1.get hx
    obtain ⟨v2, f2, rv2⟩ := r2.get hy
    have j1 : x1 = v1 := by simp only [List.getElem?_toArray] at g1; rw [f1] at g1; cases g1; rfl
    have j2 : x2 = v2 := by simp only [List.getElem?_toArray] at g2; rw [f2] at g2; cases g2; rfl
    subst j1 j2
    have ne := fun {c : Addr} {o : Obj} (e : s.heap.get? c = some o) => Nat.ne_of_gt (lt e)
    have hT2 : IsTupOf2 h2' s.heap.objs.size x1 x2 := (sb.2 _ (ne hz)).trans hT
    have new : ObjOk X.prog X.w (upd H s.heap.objs.size (.tup [x, y])) h2' s.heap.objs.size (.tup [x, y]) := ⟨by show 2 ≤ sizeLine; decide, [x1, x2], .cons rv1 (.cons rv2 .nil), ⟨_, hT2, rfl, _, rfl⟩⟩
    refine ⟨.ref s.heap.objs.size, _, I.turnedNew (t' := tk) (ch := [z, TI, TO, i1, i2]) (fun c o hm e => ?_) hf (Nat.le_refl _) new, rfl, ⟨_, x, y, rfl, I.hok.fresh (Nat.le_refl _), rfl, fun l hl => by rw [sqB_inj I hl qx]; exact hx, fun l hl => by rw [sqB_inj I hl qy]; exact hy⟩,
      ⟨z', (sb.2 _ S.TIz).trans (hk _ _ S.TIz S.TITO S.TIi1 S.TIi2 hTI), ⟨x1, x2, (sb.2 _ S.TOz).trans hTO'⟩, st1.1.at' fun o q => (sb.2 _ S.zi1.symm).trans q, st2.1.at' fun o q => (sb.2 _ S.zi2.symm).trans q⟩, fun c hm => ?_⟩
    · simp only [List.mem_cons, List.not_mem_nil, or_false, not_or] at hm
      exact (sb.2 _ hm.1).trans (hk c o hm.1 hm.2.2.1 hm.2.2.2.1 hm.2.2.2.2 e)
    · have hlt : c < s.heap.objs.size := by
        have hm' := hm
        simp only [List.mem_cons, List.not_mem_nil, or_false] at hm'
        rcases hm' with rfl | rfl | rfl | rfl | rfl
        · exact lt hz
        · exact lt hTI
        · exact lt hTO
        · exact lt h1.obj.choose_spec.1
        · exact lt h2.obj.choose_spec.1
      rw [upd_ne (Nat.ne_of_lt hlt)]
      exact (hf c hm).1
  done := by
    intro X hP hw hK hc i pins s σ H E I hf ⟨hz, hTI, ⟨x0, y0, hTO⟩, h1, h2⟩ ⟨xs, ys, qx, qy, hi⟩
    subst hP hw hK
    obtain ⟨l1, r1, p1, _⟩ := sqB_items I qx
    obtain ⟨l2, r2, p2, _⟩ := sqB_items I qy
    have e1 := r1.length
    have e2 := r2.length
    have hd : X.A.in1.handled = none := I.ok.hd hc
    refine wpAny_pyNext_zipD2_end S (draws_b t hd i1 a ha l1.toArray) (draws_b u hd i2 b hb l2.toArray) hz hTI hTO ⟨h1, p1⟩ ⟨h2, p2⟩ (by simp; omega) (by simp; omega) (by simp; omega) fun h' tk hk => ⟨rfl, I.turnedL (t' := tk) (ch := [z, TI, TO, i1, i2]) (fun c o hm e => ?_) hf⟩
    simp only [List.mem_cons, List.not_mem_nil, or_false, not_or] at hm
    exact hk c o hm.1 hm.2.2.1 hm.2.2.2.1 hm.2.2.2.2 e
  self := fun A i s Q E st h => wpAny_pyIter_zip st.1 h
def iZipB (K : PySem.W.Frag) (ta : TA) : TI := fun σ H R => ta σ H fun vs H1 => ∃ (t u : Bool) (a b : Addr) (xs ys : List V), vs = [.ref a, .ref b] ∧ SqB t K H1 a xs ∧ SqB u K H1 b ys ∧ R (ItP K t u a b) H1
theorem pi_zipB {X : Cx} {e e2 : Expr} {ta : TA} {p pos tpos : Pos} {elts : List Expr} {kk : Nat} (hg : Gl X "zip") (hm : X.mg "zip" = none) (ha : PA X [e, e2] ta)
    (hs : starEach [e, e2] X.env = (false, eval e X.env) :: starEach [e2] X.env) (hpl : (backTo pos (starEach [e2] X.env)).any (·.1) = false) :
    PI X (.Tuple elts kk tpos) (.Call (.Name "zip" p) [e, e2] [] pos) (iZipB X.K ta) := by
  refine ⟨fun pins s σ H R I h => Call_ (ld_blt I hg hm PyProof.Rows.boot_zip (PyProof.Rows.callWith_type1 (thn (ha.run pos pins s σ H _ I h) fun us s1 ⟨vs, H1, I1, r1, t, u, a, b, xs, ys, ex, qx, qy, q⟩ => ?_) hs hpl))⟩
  subst ex
  cases r1 with
  | cons r rr =>
    cases rr with
    | cons r' rr =>
      cases rr
      cases r
      cases r'
      obtain ⟨l1, v1, p1, lt1⟩ := sqB_items I1 qx
      obtain ⟨l2, v2, p2, lt2⟩ := sqB_items I1 qy
      refine zip_begins2 (begins_b t a l1.toArray) (begins_b u b l2.toArray) p1 p2 fun h' hz hTI hTO h1 h2 hsz hk => wpAny_pyIter_zip hz ?_
      have S := zip_sep2 (N := s1.heap.objs.size) (fp1 := [a]) (fp2 := [b]) (by simpa using lt1) (by simpa using lt2)
      refine ⟨_, _, _, _, H1, rfl, I1.kept (t' := s1.toks) hk, turn_p (t := t) (u := u) S (Nat.ne_of_lt lt1) (Nat.ne_of_lt (Nat.lt_succ_of_lt lt2)), ⟨hz, hTI, ⟨_, _, hTO⟩, .first h1, .first h2⟩, fun c hc => ?_, q⟩
      have hle : s1.heap.objs.size ≤ c := by
        simp only [List.mem_cons, List.not_mem_nil, or_false] at hc
        rcases hc with rfl | rfl | rfl | rfl | rfl <;> first | exact Nat.le_add_right _ _ | exact Nat.le_refl _
      exact I1.fpOk hle (I1.hok.fresh hle)
/-! ### enumerate -/
def ItE (K : PySem.W.Frag) (t : Bool) (a : Addr) : It :=
  ⟨fun i H => ∃ xs : List V, SqB t K H a xs ∧ i < xs.length, fun i H v H' => ∃ T x, v = .ref T ∧ H T = none ∧ H' = upd H T (.tup [.int (i : Nat), x]) ∧ ∀ xs, SqB t K H a xs → xs[i]? = some x, fun i H => ∃ xs : List V, SqB t K H a xs ∧ i = xs.length⟩
theorem turn_e {P : Program} {w : World} {K : PySem.W.Frag} {elts : List Expr} {kk : Nat} {tpos : Pos} {t : Bool} {a e it : Addr} (hei : e ≠ it) (hea : e ≠ a) (ha : a ≠ it) :
    Turn P w K (.Tuple elts kk tpos) (ItE K t a) [e, it] e (fun i h => (∃ old, IsEnum h e it ((i : Nat) : Int) old) ∧ ItB t h it a i) where
  mem := List.mem_cons_self
  obj := fun i h ⟨⟨old, he⟩, h1⟩ c hc => by
    simp only [List.mem_cons, List.not_mem_nil, or_false] at hc
    rcases hc with rfl | rfl
    · exact ⟨_, he, fun v q => nomatch q⟩
    · exact h1.obj
  keep := fun i h h' ⟨⟨old, he⟩, h1⟩ k => ⟨⟨old, k _ (by simp) _ he⟩, h1.at' fun o q => k _ (by simp) o q⟩
  item := by
    intro X hP hw hK hc i pins s σ H E I hf ⟨⟨old, he⟩, h1⟩ ⟨xs, qx, hi⟩
    subst hP hw hK
    obtain ⟨l1, r1, p1, _⟩ := sqB_items I qx
    have e1 := r1.length
    have hd : X.A.in1.handled = none := I.ok.hd hc
    have lt : ∀ {c : Addr} {o : Obj}, s.heap.get? c = some o → c < s.heap.objs.size := fun e => Heap.lt_size e
    refine wpAny_pyNext_enum_itemD (draws_b t hd it a ha l1.toArray) he ⟨h1, p1⟩ (by simp; omega) hei (by simp [hei, hea]) fun v h' tk g1 ho st1 hT hsz hk => ?_
    refine ⟨_, rfl, wpAny_letOwnedTupleGo_enum (s := { s with heap := h', toks := tk + 1 }) ho fun h2' z' sb => ?_⟩
    obtain ⟨x, hx⟩ : ∃ x, xs[i]? = some x := ⟨_, List.getElem?_eq_getElem hi⟩
    obtain ⟨v1, f1, rv1⟩ := r1.get hx
    have j1 : v = v1 := by simp only [List.getElem?_toArray] at g1; rw [f1] at g1; cases g1; rfl
    subst j1
    have hT2 : h2'.get? s.heap.objs.size = some { cls := .type "tuple", data := .seq #[.int i tk, v] } := (sb.2 _ (Nat.ne_of_gt (lt he))).trans hT
    have new : ObjOk X.prog X.w (upd H s.heap.objs.size (.tup [.int (i : Nat), x])) h2' s.heap.objs.size (.tup [.int (i : Nat), x]) := ⟨by show 2 ≤ sizeLine; decide, [.int i tk, v], .cons ⟨_, rfl⟩ (.cons rv1 .nil), ⟨_, hT2, rfl, _, rfl⟩⟩
    refine ⟨.ref s.heap.objs.size, _, I.turnedNew (t' := tk + 1) (ch := [e, it]) (fun c o hm y => ?_) hf (Nat.le_refl _) new, rfl, ⟨_, x, rfl, I.hok.fresh (Nat.le_refl _), rfl, fun l hl => by rw [sqB_inj I hl qx]; exact hx⟩,
      ⟨⟨v, by rw [show ((i + 1 : Nat) : Int) = (i : Int) + 1 by omega]; exact z'⟩, st1.1.at' fun o q => (sb.2 _ hei.symm).trans q⟩, fun c hm => ?_⟩
    · simp only [List.mem_cons, List.not_mem_nil, or_false, not_or] at hm
      exact (sb.2 _ hm.1).trans (hk c o hm.1 hm.2 y)
    · have hlt : c < s.heap.objs.size := by
        have hm' := hm
        simp only [List.mem_cons, List.not_mem_nil, or_false] at hm'
        rcases hm' with rfl | rfl
        · exact lt he
        · exact lt h1.obj.choose_spec.1
      rw [upd_ne (Nat.ne_of_lt hlt)]
      exact (hf c hm).1
  done := by
    intro X hP hw hK hc i pins s σ H E I hf ⟨⟨old, he⟩, h1⟩ ⟨xs, qx, hi⟩
    subst hP hw hK
    obtain ⟨l1, r1, p1, _⟩ := sqB_items I qx
    have e1 := r1.length
    have hd : X.A.in1.handled = none := I.ok.hd hc
    have ei : l1.toArray.size = i := by simp; omega
    refine wpAny_pyNext_enum_endD (draws_b t hd it a ha l1.toArray) he (by rw [ei]; exact ⟨h1, p1⟩) fun h' hk => ⟨rfl, I.turnedL (t' := s.toks) (ch := [e, it]) (fun c o hm y => ?_) hf⟩
    simp only [List.mem_cons, List.not_mem_nil, or_false, not_or] at hm
    exact hk c o hm.2 y
  self := fun A i s Q E st h => wpAny_pyIter_enum st.1.choose_spec h
theorem meets_enum1 {v : Value} {o : Obj} {H : Heap → Prop} (B : Begins v o H) :
    Meets (Builtin.«enumerate.__new__» ⟨[.type "enumerate", v], []⟩) (fun _ R s => H s.heap ∧
      R (.ok (.ret (.ref (s.heap.push o).objs.size))) { s with heap := (s.heap.push o).push { cls := .type "enumerate", data := .fields #[.none, .bool false, .ref s.heap.objs.size, rawInt 0, .none, .none] } }) := by
  refine .of_wp fun prog w A R ⟨hp, g, d, tk, os⟩ ⟨h1, h⟩ => ?_
  have hsub := sub_enumerate
  have it : ∀ {A' : Around} {E : Value → Shared → Prop} {Q : Value → Shared → Prop}, Q (.ref hp.objs.size) ⟨hp.push o, g, d, tk, os⟩ → wpAny (model prog w) A' (pyIter v) Q E ⟨hp, g, d, tk, os⟩ := fun q => B.iter prog w _ _ ⟨hp, g, d, tk, os⟩ _ h1 q
  wp_walk using it
  refine wpAny_stack_any fun st => wpAny_pure ?_
  split
  · rename_i c _ _ _ _ _
    cases (c == Value.type "enumerate") <;> (wp_walk using it; exact ⟨_, rfl, h⟩)
  · wp_walk using it
    exact ⟨_, rfl, h⟩
theorem enum_begins1 {prog : Program} {w : World} {A : Around} {E : Value → Shared → Prop} {s : Shared} {v : Value} {o : Obj} {H : Heap → Prop} {Q : Value → Shared → Prop} (B : Begins v o H) (h1 : H s.heap)
    (h : ∀ h', IsEnum h' (s.heap.objs.size + 1) s.heap.objs.size 0 .none → h'.get? s.heap.objs.size = some o → (∀ b o, s.heap.get? b = some o → h'.get? b = some o) → Q (.ref (s.heap.objs.size + 1)) { s with heap := h' }) :
    wpAny (model prog w) A (call (.type "enumerate") [v]) Q E s := by
  have z : (s.heap.push o).objs.size = s.heap.objs.size + 1 := Heap.size_push ..
  have g := Heap.get?_push_size (s.heap.push o) (o := { cls := .type "enumerate", data := .fields #[.none, .bool false, .ref s.heap.objs.size, rawInt 0, .none, .none] }) rfl
  rw [z] at g
  refine callType_new F.called_enumerate (by decide) (F.typeCall_enumerate_1 _) (F.newCall_enumerate_1 _) (fun obj => F.args_object_init_2 obj _) F.entry_enumerate_new (meets_enum1 B) ⟨h1, ?_⟩
  rw [z]
  exact ⟨⟨_, g, rfl⟩, h _ g (Heap.get?_push_of_some _ (Heap.get?_push_size _ B.free)) fun b o x => Heap.get?_push_of_some _ (Heap.get?_push_of_some _ x)⟩
def iEnuB (K : PySem.W.Frag) (ta : TA) : TI := fun σ H R => ta σ H fun vs H1 => ∃ (t : Bool) (a : Addr) (xs : List V), vs = [.ref a] ∧ SqB t K H1 a xs ∧ R (ItE K t a) H1
theorem pi_enumB {X : Cx} {e : Expr} {ta : TA} {p pos tpos : Pos} {elts : List Expr} {kk : Nat} (hg : Gl X "enumerate") (hm : X.mg "enumerate" = none) (ha : PA X [e] ta) (hs : starEach [e] X.env = [(false, eval e X.env)]) :
    PI X (.Tuple elts kk tpos) (.Call (.Name "enumerate" p) [e] [] pos) (iEnuB X.K ta) := by
  refine ⟨fun pins s σ H R I h => Call_ (ld_blt I hg hm boot_enumerate (PyProof.Rows.callWith_type1 (thn (ha.run pos pins s σ H _ I h) fun us s1 ⟨vs, H1, I1, r1, t, a, xs, ex, qx, q⟩ => ?_) hs rfl))⟩
  subst ex
  cases r1 with
  | cons r rr =>
    cases rr
    cases r
    obtain ⟨l1, v1, p1, lt1⟩ := sqB_items I1 qx
    refine enum_begins1 (begins_b t a l1.toArray) p1 fun h' he h1 hk => wpAny_pyIter_enum he ?_
    refine ⟨_, _, _, _, H1, rfl, I1.kept (t' := s1.toks) hk, turn_e (t := t) (a := a) (Nat.succ_ne_self _) (Nat.ne_of_gt (Nat.lt_succ_of_lt lt1)) (Nat.ne_of_lt lt1), ⟨⟨_, he⟩, .first h1⟩, fun c hc => ?_, q⟩
    have hle : s1.heap.objs.size ≤ c := by
      simp only [List.mem_cons, List.not_mem_nil, or_false] at hc
      rcases hc with rfl | rfl <;> first | exact Nat.le_add_right _ _ | exact Nat.le_refl _
    exact I1.fpOk hle (I1.hok.fresh hle)
end Mp

/-! MpI: what loops walk. -/
namespace Mp
open PySem PySem.Spec PyProof.Rows L2 RZ

/-- a walk yields the trees xs, while G stands -/
structure Walks (C : Ctx) (J : It) (xs : List PV) (G : As → Hp → Prop) : Prop where
  go : ∀ i x z H, xs[i]? = some x → G z H → J.go i H
  yld : ∀ i x z H v H', xs[i]? = some x → G z H → J.yld i H v H' → (∀ a o, H a = some o → H' a = some o) ∧ Rep C z H' x v
  stop : ∀ i z H, i = xs.length → G z H → J.stop i H
  stay : ∀ M z H z' H', G z H → Stp M z H z' H' → MOk M z H → G z' H'
section
variable {C : Ctx} {z z' : As} {H H' : Hp}
def GT (C : Ctx) (a : Addr) (xs : List PV) (vs : List V) : As → Hp → Prop := fun z H => SqT C.K H a vs ∧ RepL C z H xs vs
def GL (C : Ctx) (a : Addr) (xs : List PV) (vs : List V) : As → Hp → Prop := fun z H => H a = some (.lst vs) ∧ ¬ z a ∧ RepL C z H xs vs
theorem GT.stay {a : Addr} {xs : List PV} {vs : List V} {M : As} (g : GT C a xs vs z H) (s : Stp M z H z' H') (m : MOk M z H) : GT C a xs vs z' H' := ⟨SqT.keep s.keep m.wrt g.1, g.2.step s m⟩
theorem GL.stay {a : Addr} {xs : List PV} {vs : List V} {M : As} (g : GL C a xs vs z H) (s : Stp M z H z' H') (m : MOk M z H) : GL C a xs vs z' H' :=
  ⟨s.keep _ _ g.1 (fun q => g.2.1 (m.sub _ q)) True.intro, fun (q : z' a) => (s.new _ q).elim g.2.1 fun (q : H a = none) => (by rw [g.1] at q; cases q), g.2.2.step s m⟩
theorem walks_tup {a : Addr} {xs : List PV} {vs : List V} : Walks C (Itt C.K a) xs (GT C a xs vs) where
  go := fun i x z H e g => by
    obtain ⟨v, h1, _⟩ := g.2.get e
    exact ⟨vs, v, g.1, h1⟩
  yld := fun i x z H v H' e g y => by
    obtain ⟨rfl, y⟩ := y
    obtain ⟨w, h1, h2⟩ := g.2.get e
    have := y vs g.1
    rw [h1] at this; cases this
    exact ⟨fun _ _ e => e, h2⟩
  stop := fun i z H h g => ⟨vs, g.1, by rw [← g.2.length]; exact Nat.le_of_eq h.symm⟩
  stay := fun M z H z' H' g s m => g.stay s m
theorem walks_lst {a : Addr} {xs : List PV} {vs : List V} : Walks C (Itl C.K a) xs (GL C a xs vs) where
  go := fun i x z H e g => by
    obtain ⟨v, h1, _⟩ := g.2.2.get e
    exact ⟨vs, v, .of g.1, h1⟩
  yld := fun i x z H v H' e g y => by
    obtain ⟨rfl, y⟩ := y
    obtain ⟨w, h1, h2⟩ := g.2.2.get e
    have := y vs (.of g.1)
    rw [h1] at this; cases this
    exact ⟨fun _ _ e => e, h2⟩
  stop := fun i z H h g => ⟨vs, .of g.1, by rw [← g.2.2.length]; exact Nat.le_of_eq h.symm⟩
  stay := fun M z H z' H' g s m => g.stay s m
theorem walks_str {x : Str} : Walks C (Its x) (x.cps.toList.map fun c => PV.str ⟨#[c]⟩) (fun _ _ => True) where
  go := fun i y z H e g => by
    have := (List.getElem?_eq_some_iff.mp e).1
    show i < x.cps.size
    simpa using this
  yld := fun i y z H v H' e g q => by
    obtain ⟨rfl, c, h1, rfl⟩ := q
    rw [List.getElem?_map] at e
    rw [Array.getElem?_toList, h1] at e
    cases e
    exact ⟨fun _ _ e => e, .str _⟩
  stop := fun i z H h g => by
    replace h := Nat.le_of_eq h.symm
    show x.cps.size ≤ i
    simpa using h
  stay := fun _ _ _ _ _ _ _ _ => trivial
theorem keys_at : ∀ {ks : List PV} {l : List Key} {i : Nat} {x : PV}, keysOf ks = some l → ks[i]? = some x → ∃ k, l[i]? = some k ∧ keyOf x = some k
  | [], _, _, _, _, e => by simp at e
  | y :: ks, l, i, x, h, e => by
    simp only [keysOf] at h
    split at h
    · rename_i a b h1 h2
      cases h
      cases i with
      | zero => simp at e; subst e; exact ⟨a, rfl, h1⟩
      | succ i =>
        obtain ⟨k, q1, q2⟩ := keys_at (i := i) h2 (by simpa using e)
        exact ⟨k, by simpa using q1, q2⟩
    · cases h
theorem key_rep {x : PV} {k : Key} (e : keyOf x = some k) : Rep C z H x (kV k) := by
  cases x <;> first | (cases e; done) | skip
  · cases e; exact .int _
  · cases e; exact .str _
theorem zip_at {l : List Key} {vs : List V} {i : Nat} {k : Key} {v : V} (h1 : l[i]? = some k) (h2 : vs[i]? = some v) : (l.zip vs)[i]? = some (k, v) := by
  rw [List.getElem?_zip_eq_some]
  exact ⟨h1, h2⟩
/-- a frozen dict that is walked -/
def GD (C : Ctx) (a : Addr) (o : Obj) (l : List Key) (xs : List PV) (vs : List V) : As → Hp → Prop := fun z H => H a = some (.frz o (.dK (l.zip vs))) ∧ RepL C z H xs vs
theorem GD.stay {a : Addr} {o : Obj} {l : List Key} {xs : List PV} {vs : List V} {M : As} (g : GD C a o l xs vs z H) (s : Stp M z H z' H') (m : MOk M z H) : GD C a o l xs vs z' H' :=
  ⟨s.keep _ _ g.1 (fun q => by
    obtain ⟨u, e, mu⟩ := m.wrt _ q
    rw [g.1] at e; cases e; exact mu) True.intro, g.2.step s m⟩
theorem walks_keys {a : Addr} {o : Obj} {ks : List PV} {l : List Key} {xs : List PV} {vs : List V} (hk : keysOf ks = some l) (hl : l.length = vs.length) : Walks C (Itk a o (l.zip vs)) ks (GD C a o l xs vs) where
  go := fun i x z H e g => by
    obtain ⟨k, h1, _⟩ := keys_at hk e
    have := (List.getElem?_eq_some_iff.mp h1).1
    exact ⟨g.1, by rw [List.length_zip]; omega⟩
  yld := fun i x z H v H' e g y => by
    obtain ⟨k, h1, h2⟩ := keys_at hk e
    obtain ⟨rfl, k', v', h3, rfl⟩ := y
    rw [List.getElem?_zip_eq_some] at h3
    have h4 : l[i]? = some k' := h3.1
    rw [h1] at h4
    cases h4
    exact ⟨fun _ _ e => e, key_rep h2⟩
  stop := fun i z H h g => ⟨g.1, by
    rw [List.length_zip]
    have : l.length = ks.length := keysOf_len hk
    omega⟩
  stay := fun M z H z' H' g s m => g.stay s m
theorem walks_vals {a : Addr} {o : Obj} {l : List Key} {xs : List PV} {vs : List V} (hl : l.length = vs.length) : Walks C (Itd a o (l.zip vs)) xs (GD C a o l xs vs) where
  go := fun i x z H e g => by
    obtain ⟨v, h1, _⟩ := g.2.get e
    have := (List.getElem?_eq_some_iff.mp h1).1
    exact ⟨g.1, by rw [List.length_zip]; omega⟩
  yld := fun i x z H v H' e g y => by
    obtain ⟨w, h1, h2⟩ := g.2.get e
    obtain ⟨rfl, k', h3⟩ := y
    rw [List.getElem?_zip_eq_some] at h3
    have h4 : vs[i]? = some v := h3.2
    rw [h1] at h4
    cases h4
    exact ⟨fun _ _ e => e, h2⟩
  stop := fun i z H h g => ⟨g.1, by
    rw [List.length_zip]
    have := g.2.length
    omega⟩
  stay := fun M z H z' H' g s m => g.stay s m
theorem walks_rng {lo : Int} {n : Nat} : Walks C (Itr lo n) ((List.range n).map fun (k : Nat) => PV.int (lo + k)) (fun _ _ => True) where
  go := fun i x z H e g => by
    have := (List.getElem?_eq_some_iff.mp e).1
    show i < n
    simpa using this
  yld := fun i x z H v H' e g y => by
    obtain ⟨rfl, rfl⟩ := y
    have hi := (List.getElem?_eq_some_iff.mp e).1
    simp only [List.length_map, List.length_range] at hi
    rw [List.getElem?_map, List.getElem?_range hi] at e
    cases e
    exact ⟨fun _ _ e => e, .int _⟩
  stop := fun i z H h g => by
    replace h := Nat.le_of_eq h.symm
    show n ≤ i
    simpa using h
  stay := fun _ _ _ _ _ _ _ _ => trivial
theorem zip_get {xs ys : List PV} {i : Nat} {x : PV} (e : (List.zipWith (fun x y => PV.tup [x, y]) xs ys)[i]? = some x) : ∃ u v, xs[i]? = some u ∧ ys[i]? = some v ∧ x = .tup [u, v] := by
  rw [List.getElem?_zipWith] at e
  cases h1 : xs[i]? with
  | none => rw [h1] at e; cases e
  | some u =>
    cases h2 : ys[i]? with
    | none => rw [h1, h2] at e; cases e
    | some v => rw [h1, h2] at e; cases e; exact ⟨u, v, rfl, rfl, rfl⟩
theorem tup2_rep {T : Addr} {x y : PV} {v w : V} (n : H T = none) (a : Rep C z H x v) (b : Rep C z H y w) : Rep C z (upd H T (.tup [v, w])) (.tup [x, y]) (.ref T) :=
  .tup (.of upd_same) (.cons (a.ext (upd_keep n)) (.cons (b.ext (upd_keep n)) .nil))
theorem walks_items {a : Addr} {o : Obj} {ks : List PV} {l : List Key} {xs : List PV} {vs : List V} (hk : keysOf ks = some l) (hl : l.length = vs.length) : Walks C (Iti a o (l.zip vs)) (List.zipWith (fun k v => PV.tup [k, v]) ks xs) (GD C a o l xs vs) where
  go := fun i x z H e g => by
    obtain ⟨u, v, e1, e2, rfl⟩ := zip_get e
    obtain ⟨k, h1, _⟩ := keys_at hk e1
    have := (List.getElem?_eq_some_iff.mp h1).1
    exact ⟨g.1, by rw [List.length_zip]; omega⟩
  yld := fun i x z H v H' e g y => by
    obtain ⟨u, w, e1, e2, rfl⟩ := zip_get e
    obtain ⟨k, h1, h2⟩ := keys_at hk e1
    obtain ⟨w', h3, h4⟩ := g.2.get e2
    obtain ⟨T, k', v', h5, rfl, n, rfl⟩ := y
    rw [List.getElem?_zip_eq_some] at h5
    have h6 : l[i]? = some k' := h5.1
    have h7 : vs[i]? = some v' := h5.2
    rw [h1] at h6; cases h6
    rw [h3] at h7; cases h7
    exact ⟨upd_keep n, tup2_rep n (key_rep h2) h4⟩
  stop := fun i z H h g => ⟨g.1, by
    rw [List.length_zip]
    have h1 := g.2.length
    have h2 : l.length = ks.length := keysOf_len hk
    rw [List.length_zipWith] at h
    omega⟩
  stay := fun M z H z' H' g s m => g.stay s m
/-- the items of a list or (t) a tuple -/
def GB (t : Bool) (C : Ctx) (a : Addr) (xs : List PV) (vs : List V) : As → Hp → Prop := match t with
  | true => GT C a xs vs
  | false => GL C a xs vs
theorem GB.stay {t : Bool} {a : Addr} {xs : List PV} {vs : List V} {M : As} (g : GB t C a xs vs z H) (s : Stp M z H z' H') (m : MOk M z H) : GB t C a xs vs z' H' := by
  cases t with
  | true => exact GT.stay g s m
  | false => exact GL.stay g s m
theorem GB.sq {t : Bool} {a : Addr} {xs : List PV} {vs : List V} (g : GB t C a xs vs z H) : SqB t C.K H a vs := by
  cases t with
  | true => exact g.1
  | false => exact .of g.1
theorem GB.rep {t : Bool} {a : Addr} {xs : List PV} {vs : List V} (g : GB t C a xs vs z H) : RepL C z H xs vs := by
  cases t with
  | true => exact g.2
  | false => exact g.2.2
theorem walks_zipB {t u : Bool} {a b : Addr} {xs ys : List PV} {vs ws : List V} : Walks C (ItP C.K t u a b) (List.zipWith (fun x y => PV.tup [x, y]) xs ys) (fun z H => GB t C a xs vs z H ∧ GB u C b ys ws z H) where
  go := fun i x z H e g => by
    have h := (List.getElem?_eq_some_iff.mp e).1
    rw [List.length_zipWith] at h
    exact ⟨vs, ws, g.1.sq, g.2.sq, by rw [← g.1.rep.length, ← g.2.rep.length]; exact h⟩
  yld := fun i x z H v H' e g y => by
    obtain ⟨u, w, e1, e2, rfl⟩ := zip_get e
    obtain ⟨T, x, y', rfl, n, rfl, y1, y2⟩ := y
    obtain ⟨u', h1, r1⟩ := g.1.rep.get e1
    obtain ⟨v', h2, r2⟩ := g.2.rep.get e2
    have q1 := y1 vs g.1.sq
    have q2 := y2 ws g.2.sq
    rw [h1] at q1; cases q1
    rw [h2] at q2; cases q2
    exact ⟨upd_keep n, tup2_rep n r1 r2⟩
  stop := fun i z H h g => ⟨vs, ws, g.1.sq, g.2.sq, by rw [h, List.length_zipWith, g.1.rep.length, g.2.rep.length]⟩
  stay := fun M z H z' H' g s m => ⟨g.1.stay s m, g.2.stay s m⟩
theorem walks_enuB {t : Bool} {a : Addr} {xs : List PV} {vs : List V} : Walks C (ItE C.K t a) (xs.zipIdx.map fun p => PV.tup [.int p.2, p.1]) (GB t C a xs vs) where
  go := fun i x z H e g => by
    have hi := (List.getElem?_eq_some_iff.mp e).1
    simp only [List.length_map, List.length_zipIdx] at hi
    exact ⟨vs, g.sq, by rw [← g.rep.length]; exact hi⟩
  yld := fun i x z H v H' e g y => by
    have hi := (List.getElem?_eq_some_iff.mp e).1
    simp only [List.length_map, List.length_zipIdx] at hi
    obtain ⟨T, x', rfl, n, rfl, y1⟩ := y
    obtain ⟨u', h1, r1⟩ := g.rep.get (List.getElem?_eq_getElem hi)
    have q1 := y1 vs g.sq
    rw [h1] at q1; cases q1
    rw [List.getElem?_map, List.getElem?_zipIdx, List.getElem?_eq_getElem hi] at e
    cases e
    exact ⟨upd_keep n, tup2_rep n (by first | exact .int _ | (simp only [Nat.zero_add]; exact .int _)) r1⟩
  stop := fun i z H h g => ⟨vs, g.sq, by rw [h, ← g.rep.length]; simp⟩
  stay := fun M z H z' H' g s m => g.stay s m
end

/-! ### the iterated expression -/
section
variable (C : Ctx) (L : Act) (W : WX)
def OutI (σ : L2.St) (z : As) (H : Hp) (p : Sg) (k : IK) (R : It → Hp → Prop) : Rs (List RV) → Prop
  | .ok rs p' => match valsOf rs with
    | some l => match itV k l with
      | some xs => ∀ J H' z' G, Walks C J xs G → G z' H' → Go C L z H p σ z' H' p' σ → R J H'
      | none => False
    | none => False
  | .er x p' => ∀ cls d H' z', Go C L z H p σ z' H' p' σ → XRep C z' H' x cls d → W cls d σ H'
  | .no => False
/-- from the sources' values: the trees that are walked -/
def iOf (k : IK) (f : Sg → Rs (List RV)) : TI := fun σ H R => ∃ z p, SRel C L z H p σ ∧ OutI C L W σ z H p k R (f p)
end
section
variable {C : Ctx} {L : Act} {W : WX} {X : Cx}
/-- a walk over what an expression gives: a list or a tuple -/
theorem pi_seq {tg l : Expr} {tl : TE} (hl : PE X l tl) :
    PI X tg l (fun σ H R => tl σ H fun x H1 => (∃ a, x = .ref a ∧ (((∃ xs, SqL X.K H1 a xs) ∧ R (Itl X.K a) H1) ∨ ((∃ xs, SqT X.K H1 a xs) ∧ R (Itt X.K a) H1) ∨ ∃ o kvs, H1 a = some (.frz o (.dK kvs)) ∧ R (Itk a o kvs) H1)) ∨ ∃ t, x = .str t ∧ R (Its t) H1) := by
  constructor
  intro pins s σ H R I h
  apply thn (hl.run pins s σ H _ I h)
  rintro v s1 ⟨x, H1, I1, r1, ⟨a, rfl, q⟩ | ⟨x, rfl, q⟩⟩
  case inr =>
    obtain ⟨t, rfl⟩ := r1
    cases ha : x.cps.all (· < 128)
    · exact wpAny_pyIter_wide ha (pi_one (tk := s1.toks) I1 _ (turn_str _ x t "str_iterator" (.inr rfl)) ⟨_, Heap.get?_push_size _ rfl, rfl, rfl⟩ q)
    · exact wpAny_pyIter_ascii ha (pi_one (tk := s1.toks) I1 _ (turn_str _ x t "str_ascii_iterator" (.inl rfl)) ⟨_, Heap.get?_push_size _ rfl, rfl, rfl⟩ q)
  obtain rfl : v = .ref a := r1
  have fp : ∀ b ∈ [s1.heap.objs.size], FpOk X pins H1 b := fun b hb => by
    cases List.mem_singleton.mp hb
    exact I1.fpOk (Nat.le_refl _) (I1.hok.fresh (Nat.le_refl _))
  have pushed : ∀ o, Inv X pins σ H1 { s1 with heap := s1.heap.push o } := fun o => I1.kept (t' := s1.toks) fun _ _ e => Heap.get?_push_of_some _ e
  rcases q with ⟨⟨xs, hq⟩, q⟩ | ⟨⟨xs, hq⟩, q⟩ | ⟨o, kvs, hd, q⟩
  · obtain ⟨its, _, pl, _⟩ := I1.list hq
    apply wpAny_pyIter_list pl.isList
    exact ⟨_, _, _, _, H1, rfl, pushed _, turn_list a _, ⟨_, Heap.get?_push_size _ rfl, rfl, rfl⟩, fp, q⟩
  · obtain ⟨its, _, pl, _⟩ := I1.tuple hq
    apply wpAny_pyIter_tuple (items := its.toArray) pl
    exact ⟨_, _, _, _, H1, rfl, pushed _, turn_tuple a _, ⟨_, Heap.get?_push_size _ rfl, rfl, rfl⟩, fp, q⟩
  · obtain ⟨hs, hgd, hx, es, ep, vs, hdt, hsz, kv, hm⟩ := I1.frzK hd
    apply iter_keys hs hgd hx hdt (pi_one (tk := s1.toks) I1 _ (turn_keys _ hdt) ⟨_, Heap.get?_push_size _ rfl, rfl, ?_⟩ q)
    rw [hsz] <;> rfl
end
end Mp

/-! MpE: expressions by the interpreter, one rule a form. -/
namespace Mp
open PySem PySem.Spec PyProof.Rows L2

theorem bl_of {x : RV} {b : Bool} (h : x.bl? = some b) : x = .val (.bl b) := by
  unfold RV.bl? at h
  split at h
  · cases h; rfl
  · cases h
theorem int_of {x : RV} {b : Int} (h : x.int? = some b) : x = .val (.int b) := by
  unfold RV.int? at h
  split at h
  · cases h; rfl
  · cases h
theorem val_of {x : RV} {b : PV} (h : x.val? = some b) : x = .val b := by
  unfold RV.val? at h
  split at h
  · cases h; rfl
  · cases h
section
variable {C : Ctx} {L : Act} {W : WX} {X : Cx} {fa fb fc : Sg → Rs RV} {a b c : Expr} {pos : Pos}
/-- a value that stands still -/
theorem e_con {x : PV} {v : V} (h : PE X a (tC v)) (r : ∀ z H, Rep C z H x v) : PE X a (tOf C L W fun s => .ok (.val x) s) :=
  PE.imp h fun σ H Q ⟨z, p, s, k⟩ => k v H z (.refl s) (.val (r z H))
theorem SRel.freeze {z : As} {H : Hp} {p : Sg} {σ : L2.St} {i : Nat} {t : Bool} {x : PV} (s : SRel C L z H p σ) (hm : x.mut = false) (e : p[i]? = some (.own t x)) :
    ∃ a z1, σ[i]? = some (some (.ref a)) ∧ Go C L z H p σ z1 H (p.set i (.pv x)) σ ∧ Rep C z1 H x (.ref a) := by
  obtain ⟨a, o, h1, h2, h3, h4, h5, h6⟩ := s.ow i t x e
  have hi : i < p.length := (List.getElem?_eq_some_iff.mp e).1
  have rx : Rep C (fun b => z b ∧ ¬ b = a) H x (.ref a) := h5.rep hm (fun _ q => q.1) fun b e q => q.2 (by cases e; rfl)
  have own' : ∀ {j u y}, (p.set i (.pv x))[j]? = some (.own u y) → j ≠ i ∧ p[j]? = some (.own u y) := fun {j u y} q => by
    by_cases hj : i = j
    · subst hj; rw [List.getElem?_set_self hi] at q; cases q
    · rw [List.getElem?_set_ne hj] at q; exact ⟨Ne.symm hj, q⟩
  refine ⟨a, _, h1, ⟨⟨by simpa using s.len, fun b q => s.zt b q.1, s.h0, fun j y q => ?_, fun j u y q => ?_, fun j k u w y y2 b q1 q2 => ?_, s.mp, s.tb, fun j hs q => (s.lm j hs (lam_set (fun _ => by simp) q).2).less fun a q => q.1⟩, ⟨fun _ _ q _ _ => q, fun _ q => q, fun b q n => ⟨q, fun z => n ⟨i, t, x, e, by rw [z]; exact h1⟩⟩, fun b q => .inl q.1⟩, fun b ⟨j, u, y, q1, q2⟩ => .inl ⟨j, u, y, (own' q1).2, q2⟩⟩, rx⟩
  · by_cases hj : i = j
    · subst hj; rw [List.getElem?_set_self hi] at q; cases q; exact ⟨_, h1, rx⟩
    · rw [List.getElem?_set_ne hj] at q
      obtain ⟨v, g1, g2⟩ := s.pv j y q
      exact ⟨v, g1, g2.less fun _ q => q.1⟩
  · obtain ⟨hj, q'⟩ := own' q
    obtain ⟨b, o', g1, g2, g3, g4, g5, g6⟩ := s.ow j u y q'
    exact ⟨b, o', g1, ⟨g2, fun z => hj (s.dj j i u t y x a q' e (by rw [g1, z]) h1)⟩, g3, g4, g5.less fun _ q => q.1, g6⟩
  · exact s.dj j k u w y y2 b (own' q1).2 (own' q2).2
theorem e_var {cl : Cl} {tb : Nat → Option Fd} {i : Nat} (h : PE X a (tVar i)) : PE X a (tOf C L W (evE cl tb (.var i))) := by
  refine PE.imp h fun σ H Q ⟨z, p, s, k⟩ => ?_
  unfold evE at k
  cases e : p[i]? with
  | none => rw [e] at k; exact k.elim
  | some sl =>
    rw [e] at k
    cases sl with
    | un => exact k.elim
    | lam _ => exact k.elim
    | pv x =>
      obtain ⟨v, h1, h2⟩ := s.pv i x e
      exact ⟨v, h1, k v H z (.refl s) (.val h2)⟩
    | own t x =>
      dsimp only at k
      split at k
      · exact k.elim
      · rename_i hm
        obtain ⟨v, z1, h1, g, r⟩ := s.freeze (by simpa using hm) e
        exact ⟨_, h1, k _ H z1 g (.val r)⟩
theorem e_bor {cl : Cl} {tb : Nat → Option Fd} {i : Nat} (h : PE X a (tVar i)) : PE X a (tOf C L W (evE cl tb (.bor i))) := by
  refine PE.imp h fun σ H Q ⟨z, p, s, k⟩ => ?_
  unfold evE at k
  cases e : p[i]? with
  | none => rw [e] at k; exact k.elim
  | some sl =>
    rw [e] at k
    cases sl with
    | un => exact k.elim
    | lam _ => exact k.elim
    | pv x =>
      obtain ⟨v, h1, h2⟩ := s.pv i x e
      exact ⟨v, h1, k v H z (.refl s) (.val h2)⟩
    | own t x =>
      obtain ⟨v, o, h1, _⟩ := s.ow i t x e
      exact ⟨_, h1, k _ H z (.refl s) (.bor h1)⟩
/-- two operands -/
theorem read2 {r : R2} {f : RV → RV → Sg → Rs RV} (hf : ∀ z H p σ Q z2 H2 p2 x y v u, SRel C L z H p σ → Go C L z H p σ z2 H2 p2 σ → RRep C z2 H H2 p2 σ x v → RRep C z2 H H2 p2 σ y u → OutE C L W (RRep C) σ z H p Q (f x y p2) → r v u H2 Q) :
    ∀ σ H Q, tOf C L W (fun s => (fa s).bind fun x s1 => (fb s1).bind fun y s2 => f x y s2) σ H Q → tOp r (tOf C L W fa) (tOf C L W fb) σ H Q := by
  rintro σ H Q ⟨z, p, s, k⟩
  refine ⟨z, p, s, ?_⟩
  dsimp only at k
  cases e1 : fa p with
  | no => rw [e1] at k; exact k.elim
  | er x p1 => rw [e1] at k; exact k
  | ok x p1 =>
    rw [e1] at k
    intro v H1 z1 g1 r1
    refine ⟨z1, p1, g1.rel, ?_⟩
    replace k : OutE C L W (RRep C) σ z H p Q ((fb p1).bind fun y s2 => f x y s2) := k
    cases e2 : fb p1 with
    | no => rw [e2] at k; exact k.elim
    | er y p2 => rw [e2] at k; exact fun cls d H2 z2 g2 q => k cls d H2 z2 (g1.trans s g2) q
    | ok y p2 =>
      rw [e2] at k
      exact fun u H2 z2 g2 r2 => hf z H p σ Q z2 H2 p2 x y v u s (g1.trans s g2) (r1.go g1.rel g2) (r2.up fun a q => g1.stp.there a q) k
/-- one operand -/
theorem read1 {r : V → Hp → VK → Prop} {f : RV → Sg → Rs RV} (hf : ∀ z H p σ Q z2 H2 p2 x v, SRel C L z H p σ → Go C L z H p σ z2 H2 p2 σ → RRep C z2 H H2 p2 σ x v → OutE C L W (RRep C) σ z H p Q (f x p2) → r v H2 Q) :
    ∀ σ H Q, tOf C L W (fun s => (fa s).bind f) σ H Q → tUn r (tOf C L W fa) σ H Q := by
  rintro σ H Q ⟨z, p, s, k⟩
  refine ⟨z, p, s, ?_⟩
  dsimp only at k
  cases e1 : fa p with
  | no => rw [e1] at k; exact k.elim
  | er x p1 => rw [e1] at k; exact k
  | ok x p1 =>
    rw [e1] at k
    exact fun v H1 z1 g1 r1 => hf z H p σ Q z1 H1 p1 x v s g1 r1 k
theorem e_bin {op : Operator} (hK : X.K = C.K) (ha : PE X a (tOf C L W fa)) (hb : PE X b (tOf C L W fb)) :
    PE X (.BinOp a op b pos) (tOf C L W fun s => (fa s).bind fun x s1 => (fb s1).bind fun y s2 => match deref s2 x, deref s2 y with
      | some u, some v => ret1 s2 (binV op u v)
      | _, _ => .no) := by
  refine PE.imp (pe_op (op_bin hK) ha hb) (read2 fun z H p σ Q z2 H2 p2 x y v u s g rx ry k => ?_)
  cases e1 : deref p2 x with
  | none => rw [e1] at k; exact k.elim
  | some m =>
    cases e2 : deref p2 y with
    | none => rw [e1, e2] at k; exact k.elim
    | some n =>
      rw [e1, e2] at k
      replace k : OutE C L W (RRep C) σ z H p Q (ret1 p2 (binV op m n)) := k
      cases e3 : binV op m n with
      | none => rw [e3] at k; exact k.elim
      | some r =>
        rw [e3] at k
        exact ⟨z2, m, n, r, deref_top g.rel rx e1, deref_top g.rel ry e2, e3, fun w H' an => an.fin s g fun v H1 z1 g1 r1 => k v H1 z1 g1 r1⟩
theorem e_neg (ha : PE X a (tOf C L W fa)) : PE X (.UnaryOp .USub a pos) (tOf C L W fun s => (fa s).bind fun x s1 => match x.int? with
    | some i => .ok (.val (.int (-i))) s1
    | none => .no) := by
  refine PE.imp (pe_un un_neg ha) (read1 fun z H p σ Q z2 H2 p2 x v s g rx k => ?_)
  cases e1 : x.int? with
  | none => rw [e1] at k; exact k.elim
  | some i =>
    rw [e1] at k
    obtain rfl := int_of e1
    cases rx with | val h => cases h; exact ⟨_, rfl, k _ _ _ g (.val (.int _))⟩
theorem e_cmp {op : CmpOp} (hK : X.K = C.K) (hu : X.A.units + 65 < cLine) (gv : ∀ g v, C.gv g = some v → ∃ f, v = .ref f) (hm : behindInMarks op b = false) (ha : PE X a (tOf C L W fa)) (hb : PE X b (tOf C L W fb)) :
    PE X (.Compare a [op] [b] pos) (tOf C L W fun s => (fa s).bind fun x s1 => (fb s1).bind fun y s2 => match deref s2 x, deref s2 y with
      | some u, some v => match cmpV op u v with
        | some c => .ok (.val (.bl c)) s2
        | none => .no
      | _, _ => .no) := by
  refine PE.imp (pe_cmpR (op_cmp hK hu gv) ha hb hm) (read2 fun z H p σ Q z2 H2 p2 x y v u s g rx ry k => ?_)
  cases e1 : deref p2 x with
  | none => rw [e1] at k; exact k.elim
  | some m =>
    cases e2 : deref p2 y with
    | none => rw [e1, e2] at k; exact k.elim
    | some n =>
      rw [e1, e2] at k
      dsimp only at k
      cases e3 : cmpV op m n with
      | none => rw [e3] at k; exact k.elim
      | some r =>
        rw [e3] at k
        exact ⟨z2, m, n, r, deref_top g.rel rx e1, deref_top g.rel ry e2, e3, k _ _ _ g (.val (.bl _))⟩
theorem e_sub (hK : X.K = C.K) (hu : X.A.units + 65 < cLine) (hs : PlainIx b) (ha : PE X a (tOf C L W fa)) (hb : PE X b (tOf C L W fb)) :
    PE X (.Subscript a b pos) (tOf C L W fun s => (fa s).bind fun x s1 => (fb s1).bind fun y s2 => match deref s2 x, deref s2 y with
      | some u, some v => match subV u v with
        | some w => .ok (.val w) s2
        | none => .no
      | _, _ => .no) := by
  refine PE.imp (pe_ix (ix_sub hK (by omega)) ha hb hs) (read2 fun z H p σ Q z2 H2 p2 x y v u s g rx ry k => ?_)
  cases e1 : deref p2 x with
  | none => rw [e1] at k; exact k.elim
  | some m =>
    cases e2 : deref p2 y with
    | none => rw [e1, e2] at k; exact k.elim
    | some n =>
      rw [e1, e2] at k
      dsimp only at k
      cases e3 : subV m n with
      | none => rw [e3] at k; exact k.elim
      | some r =>
        rw [e3] at k
        exact ⟨z2, m, n, r, deref_top g.rel rx e1, deref_top g.rel ry e2, e3, fun w rw => k _ _ _ g (.val rw)⟩
/-! ### truth, tests -/
/-- a bool of a test as the reading of tests by the interpreter -/
theorem t_val (hK : X.K = C.K) (ha : PE X a (tOf C L W fa)) (he : ∀ whole, isTrue a X.env whole = (do let v ← whole; standAt a.pos; holding [v] (truthy v))) : PT X a (tOfB C L W fun s => asB (fa s)) := by
  refine PT.imp (pt_truth ha he) ?_
  rintro σ H Q ⟨z, p, s, k⟩
  refine ⟨z, p, s, ?_⟩
  dsimp only at k
  cases e1 : fa p with
  | no => rw [e1] at k; exact k.elim
  | er x p1 => rw [e1] at k; exact k
  | ok x p1 =>
    rw [e1] at k
    intro v H1 z1 g1 r1
    replace k : OutE C L W (fun _ _ _ _ _ (r : Bool) (v : Bool) => r = v) σ z H p Q (match deref p1 x with
      | some x => (match truV x with
        | some b => Rs.ok b p1
        | none => .no)
      | none => .no) := k
    cases e2 : deref p1 x with
    | none => rw [e2] at k; exact k.elim
    | some m =>
      rw [e2] at k
      dsimp only at k
      cases e3 : truV m with
      | none => rw [e3] at k; exact k.elim
      | some t =>
        rw [e3] at k
        exact ⟨t, by rw [hK]; exact tru_of (deref_top g1.rel r1 e2) e3, k t H1 z1 g1 rfl⟩
/-- an expression that gives a bool, as a test -/
theorem b_read {f : Sg → Rs RV} (hb : ∀ s v s', f s = .ok v s' → ∃ t, v = .val (.bl t)) : ∀ (σ : L2.St) (H : Hp) (Q : Bool → Hp → Prop), tOfB C L W (fun s => asB (f s)) σ H Q → tOf C L W f σ H fun x H1 => ∃ t, x = .bl t ∧ Q t H1 := by
  rintro σ H Q ⟨z, p, s, k⟩
  refine ⟨z, p, s, ?_⟩
  dsimp only at k
  cases e1 : f p with
  | no => rw [e1] at k; exact k.elim
  | er x p1 => rw [e1] at k; exact k
  | ok x p1 =>
    obtain ⟨t, rfl⟩ := hb _ _ _ e1
    rw [e1] at k
    intro v H1 z1 g1 r1
    cases r1 with | val h => cases h; exact ⟨t, rfl, k t H1 z1 g1 rfl⟩
end
end Mp

/-! MpF: and, or, not, conditional expressions, displays, slices, built-ins, arguments. -/
namespace Mp
open PySem PySem.Spec PyProof.Rows L2

section
variable {C : Ctx} {L : Act} {W : WX} {X : Cx} {fa fb fc : Sg → Rs RV} {ga gb : Sg → Rs Bool} {a b c : Expr} {rest : List Expr} {pos : Pos}
theorem tOf.later {f : Sg → Rs RV} {z z1 : As} {H H1 : Hp} {p p1 : Sg} {σ : L2.St} {Q : VK} (s : SRel C L z H p σ) (g : Go C L z H p σ z1 H1 p1 σ) (k : OutE C L W (RRep C) σ z H p Q (f p1)) : tOf C L W f σ H1 Q :=
  ⟨z1, p1, g.rel, k.later s g fun _ _ _ _ _ r => r.up fun a q => g.stp.there a q⟩
theorem tOfB.later {f : Sg → Rs Bool} {z z1 : As} {H H1 : Hp} {p p1 : Sg} {σ : L2.St} {Q : Bool → Hp → Prop} (s : SRel C L z H p σ) (g : Go C L z H p σ z1 H1 p1 σ) (k : OutE C L W (fun _ _ _ _ _ (r : Bool) (v : Bool) => r = v) σ z H p Q (f p1)) : tOfB C L W f σ H1 Q :=
  ⟨z1, p1, g.rel, k.later s g fun _ _ _ _ _ r => r⟩
/-- a test ahead -/
theorem readB {tt : TT} {f : Bool → Sg → Rs RV} {R : Bool → L2.St → Hp → VK → Prop} (ht : ∀ σ H Q, tOfB C L W ga σ H Q → tt σ H Q)
    (hf : ∀ z H p σ Q z1 H1 p1 t, SRel C L z H p σ → Go C L z H p σ z1 H1 p1 σ → OutE C L W (RRep C) σ z H p Q (f t p1) → R t σ H1 Q) :
    ∀ σ H Q, tOf C L W (fun s => (ga s).bind f) σ H Q → tt σ H fun t H1 => R t σ H1 Q := by
  rintro σ H Q ⟨z, p, s, k⟩
  refine ht _ _ _ ⟨z, p, s, ?_⟩
  dsimp only at k
  cases e1 : ga p with
  | no => rw [e1] at k; exact k.elim
  | er x p1 => rw [e1] at k; exact k
  | ok t p1 =>
    rw [e1] at k
    rintro v H1 z1 g1 rfl
    exact hf z H p σ Q z1 H1 p1 t s g1 k
theorem e_not (hK : X.K = C.K) (ha : PE X a (tOf C L W fa)) : PE X (.UnaryOp .Not a pos) (tOf C L W fun s => (asB (fa s)).bind fun t s1 => .ok (.val (.bl !t)) s1) := by
  refine PE.imp (pe_notT ha) ?_
  rintro σ H Q ⟨z, p, s, k⟩
  refine ⟨z, p, s, ?_⟩
  dsimp only at k
  cases e1 : fa p with
  | no => rw [e1] at k; exact k.elim
  | er x p1 => rw [e1] at k; exact k
  | ok x p1 =>
    rw [e1] at k
    intro v H1 z1 g1 r1
    cases e2 : deref p1 x with
    | none =>
      dsimp only [asB, Rs.bind] at k
      rw [e2] at k; exact k.elim
    | some m =>
      dsimp only [asB, Rs.bind] at k
      rw [e2] at k
      dsimp only at k
      cases e3 : truV m with
      | none => rw [e3] at k; exact k.elim
      | some t =>
        rw [e3] at k
        exact ⟨t, by rw [hK]; exact tru_of (deref_top g1.rel r1 e2) e3, k _ _ _ g1 (.val (.bl _))⟩
theorem e_and (ha : PE X a (tOf C L W fa)) (hb : PE X (.BoolOp .And (b :: rest) pos) (tOf C L W fb)) : PE X (.BoolOp .And (a :: b :: rest) pos) (tOf C L W fun s => (fa s).bind fun x s1 => match x.bl? with
    | some true => fb s1
    | some false => .ok (.val (.bl false)) s1
    | none => .no) := by
  refine PE.imp (pe_and ha hb) ?_
  rintro σ H Q ⟨z, p, s, k⟩
  refine ⟨z, p, s, ?_⟩
  dsimp only at k
  cases e1 : fa p with
  | no => rw [e1] at k; exact k.elim
  | er x p1 => rw [e1] at k; exact k
  | ok x p1 =>
    rw [e1] at k
    intro v H1 z1 g1 r1
    dsimp only [Rs.bind] at k
    cases e2 : x.bl? with
    | none => rw [e2] at k; exact k.elim
    | some t =>
      rw [e2] at k
      obtain rfl := bl_of e2
      cases r1 with
      | val h =>
        cases h
        cases t with
        | true => exact ⟨true, rfl, iteT (tOf.later s g1 k)⟩
        | false => exact ⟨false, rfl, iteF (k _ _ _ g1 (.val (.bl _)))⟩
theorem e_or (ha : PE X a (tOf C L W fa)) (hb : PE X (.BoolOp .Or (b :: rest) pos) (tOf C L W fb)) : PE X (.BoolOp .Or (a :: b :: rest) pos) (tOf C L W fun s => (fa s).bind fun x s1 => match x.bl? with
    | some false => fb s1
    | some true => .ok (.val (.bl true)) s1
    | none => .no) := by
  refine PE.imp (pe_or ha hb) ?_
  rintro σ H Q ⟨z, p, s, k⟩
  refine ⟨z, p, s, ?_⟩
  dsimp only at k
  cases e1 : fa p with
  | no => rw [e1] at k; exact k.elim
  | er x p1 => rw [e1] at k; exact k
  | ok x p1 =>
    rw [e1] at k
    intro v H1 z1 g1 r1
    dsimp only [Rs.bind] at k
    cases e2 : x.bl? with
    | none => rw [e2] at k; exact k.elim
    | some t =>
      rw [e2] at k
      obtain rfl := bl_of e2
      cases r1 with
      | val h =>
        cases h
        cases t with
        | false => exact ⟨false, rfl, iteF (tOf.later s g1 k)⟩
        | true => exact ⟨true, rfl, iteT (k _ _ _ g1 (.val (.bl _)))⟩
theorem e_ife (ht : PT X c (tOfB C L W ga)) (ha : PE X a (tOf C L W fa)) (hb : PE X b (tOf C L W fb)) : PE X (.IfExp c a b pos) (tOf C L W fun s => (ga s).bind fun t s1 => if t then fa s1 else fb s1) := by
  refine PE.imp (pe_ifExp ht ha hb) (readB (R := fun t σ H1 Q => if t = true then tOf C L W fa σ H1 Q else tOf C L W fb σ H1 Q) (fun _ _ _ h => h) fun z H p σ Q z1 H1 p1 t s g k => ?_)
  cases t with
  | true => exact iteT (tOf.later s g k)
  | false => exact iteF (tOf.later s g k)
/-! tests -/
theorem t_and (ha : PT X a (tOfB C L W ga)) (hb : PW X (.BoolOp .And (b :: rest) pos) (tOfB C L W gb)) : PW X (.BoolOp .And (a :: b :: rest) pos) (tOfB C L W fun s => (ga s).bind fun t s1 => if t then gb s1 else .ok false s1) := by
  have h := pw_and ha hb
  refine ⟨fun wh pins s0 σ H Q I ⟨z, p, s, k⟩ => h.run wh pins s0 σ H Q I ⟨z, p, s, ?_⟩⟩
  dsimp only at k
  cases e1 : ga p with
  | no => rw [e1] at k; exact k.elim
  | er x p1 => rw [e1] at k; exact k
  | ok t p1 =>
    rw [e1] at k
    rintro v H1 z1 g1 rfl
    cases t with
    | true => exact iteT (tOfB.later s g1 k)
    | false => exact iteF (k _ _ _ g1 rfl)
theorem t_or (ha : PT X a (tOfB C L W ga)) (hb : PW X (.BoolOp .Or (b :: rest) pos) (tOfB C L W gb)) : PW X (.BoolOp .Or (a :: b :: rest) pos) (tOfB C L W fun s => (ga s).bind fun t s1 => if t then .ok true s1 else gb s1) := by
  have h := pw_or ha hb
  refine ⟨fun wh pins s0 σ H Q I ⟨z, p, s, k⟩ => h.run wh pins s0 σ H Q I ⟨z, p, s, ?_⟩⟩
  dsimp only at k
  cases e1 : ga p with
  | no => rw [e1] at k; exact k.elim
  | er x p1 => rw [e1] at k; exact k
  | ok t p1 =>
    rw [e1] at k
    rintro v H1 z1 g1 rfl
    cases t with
    | true => exact iteT (k _ _ _ g1 rfl)
    | false => exact iteF (tOfB.later s g1 k)
theorem t_not (ha : PT X a (tOfB C L W ga)) : PT X (.UnaryOp .Not a pos) (tOfB C L W fun s => (ga s).bind fun t s1 => .ok (!t) s1) := by
  refine PT.imp (pt_not ha) ?_
  rintro σ H Q ⟨z, p, s, k⟩
  refine ⟨z, p, s, ?_⟩
  dsimp only at k
  cases e1 : ga p with
  | no => rw [e1] at k; exact k.elim
  | er x p1 => rw [e1] at k; exact k
  | ok t p1 =>
    rw [e1] at k
    rintro v H1 z1 g1 rfl
    exact k _ _ _ g1 rfl
theorem PT.eq {e : Expr} {f g : Sg → Rs Bool} (h : PT X e (tOfB C L W f)) (q : ∀ s, g s = f s) : PT X e (tOfB C L W g) := by
  have : g = f := funext q
  rw [this]; exact h
theorem PW.eq {e : Expr} {f g : Sg → Rs Bool} (h : PW X e (tOfB C L W f)) (q : ∀ s, g s = f s) : PW X e (tOfB C L W g) := by
  have : g = f := funext q
  rw [this]; exact h
theorem PE.eq {e : Expr} {f g : Sg → Rs RV} (h : PE X e (tOf C L W f)) (q : ∀ s, g s = f s) : PE X e (tOf C L W g) := by
  have : g = f := funext q
  rw [this]; exact h
theorem asB_bl (r : Rs RV) (g : RV → Sg → Rs Bool) (h : ∀ v s, r = .ok v s → g v s = (match deref s v with
    | some x => (match truV x with
      | some b => .ok b s
      | none => .no)
    | none => .no)) : asB r = r.bind g := by
  cases r with
  | ok v s => exact (h v s rfl).symm
  | er => rfl
  | no => rfl
theorem bind_bind {α β γ : Type} (r : Rs α) (f : α → Sg → Rs β) (g : β → Sg → Rs γ) : (r.bind f).bind g = r.bind fun a s => (f a s).bind g := by
  cases r <;> rfl
theorem asB_bind {α : Type} (r : Rs α) (f : α → Sg → Rs RV) : asB (r.bind f) = r.bind fun a s => asB (f a s) := by
  cases r <;> rfl
theorem asB_ok (b : Bool) (s : Sg) : asB (.ok (.val (.bl b)) s) = .ok b s := rfl
/-! displays -/
theorem e_tup {es : List Expr} {x1} {fl : Sg → Rs (List RV)} (ha : PA X es (tOfL C L W fl)) : PE X (.Tuple es x1 pos) (tOf C L W fun s => (fl s).bind fun rs s1 => match valsOf rs with
    | some l => if l.length ≤ line then .ok (.val (.tup l)) s1 else .no
    | none => .no) := by
  refine PE.imp (pe_tup ha) ?_
  rintro σ H Q ⟨z, p, s, k⟩
  refine ⟨z, p, s, ?_⟩
  dsimp only at k
  cases e1 : fl p with
  | no => rw [e1] at k; exact k.elim
  | er x p1 => rw [e1] at k; exact k
  | ok rs p1 =>
    rw [e1] at k
    intro vs H1 z1 g1 r1
    dsimp only [Rs.bind] at k
    cases e2 : valsOf rs with
    | none => rw [e2] at k; exact k.elim
    | some l =>
      rw [e2] at k
      dsimp only at k
      have hl := r1.length
      have rl := vals_rep r1 e2 (FrsIn rs vs) fun a q => q
      have g2 := g1.less s (FrsIn rs vs) (frsIn_facts r1)
      split at k
      · rename_i hz
        exact ⟨by rw [← rl.length]; exact hz, fun a n => (Ans.tup n rl).fin s g2 fun v H2 z2 g3 r3 => k v H2 z2 g3 r3⟩
      · exact k.elim
theorem e_lst {es : List Expr} {fl : Sg → Rs (List RV)} (ha : PA X es (tOfL C L W fl)) : PE X (.List es pos) (tOf C L W fun s => (fl s).bind fun rs s1 => match valsOf rs with
    | some l => if l.length ≤ line then .ok (.frs (.lst l)) s1 else .no
    | none => .no) := by
  refine PE.imp (pe_lst ha) ?_
  rintro σ H Q ⟨z, p, s, k⟩
  refine ⟨z, p, s, ?_⟩
  dsimp only at k
  cases e1 : fl p with
  | no => rw [e1] at k; exact k.elim
  | er x p1 => rw [e1] at k; exact k
  | ok rs p1 =>
    rw [e1] at k
    intro vs H1 z1 g1 r1
    dsimp only [Rs.bind] at k
    cases e2 : valsOf rs with
    | none => rw [e2] at k; exact k.elim
    | some l =>
      rw [e2] at k
      dsimp only at k
      have rl := vals_rep r1 e2 (FrsIn rs vs) fun a q => q
      have g2 := g1.less s (FrsIn rs vs) (frsIn_facts r1)
      split at k
      · rename_i hz
        exact ⟨by rw [← rl.length]; exact hz, fun a n => (Ans.lst n rl).fin s g2 fun v H2 z2 g3 r3 => k v H2 z2 g3 r3⟩
      · exact k.elim
/-! arguments -/
theorem a_nil : PA X [] (tOfL C L W fun s => .ok [] s) := PA.imp pa_nil fun σ H Q ⟨z, p, s, k⟩ => k [] H z (.refl s) .nil
theorem a_cons {e : Expr} {es : List Expr} {fl : Sg → Rs (List RV)} (ha : PE X e (tOf C L W fa)) (hr : PA X es (tOfL C L W fl)) (hs : starEach (e :: es) X.env = (false, eval e X.env) :: starEach es X.env) :
    PA X (e :: es) (tOfL C L W fun s => (fa s).bind fun r s1 => (fl s1).bind fun rs s2 => .ok (r :: rs) s2) := by
  refine PA.imp (pa_cons ha hr hs) ?_
  rintro σ H Q ⟨z, p, s, k⟩
  refine ⟨z, p, s, ?_⟩
  dsimp only at k
  cases e1 : fa p with
  | no => rw [e1] at k; exact k.elim
  | er x p1 => rw [e1] at k; exact k
  | ok x p1 =>
    rw [e1] at k
    intro v H1 z1 g1 r1
    refine ⟨z1, p1, g1.rel, ?_⟩
    dsimp only [Rs.bind] at k
    cases e2 : fl p1 with
    | no => rw [e2] at k; exact k.elim
    | er y p2 => rw [e2] at k; exact fun cls d H2 z2 g2 q => k cls d H2 z2 (g1.trans s g2) q
    | ok rs p2 =>
      rw [e2] at k
      intro vs H2 z2 g2 r2
      refine k (v :: vs) H2 z2 (g1.trans s g2) (.cons (r1.go g1.rel g2) (r2.up fun a q => g1.stp.there a q) ?_)
      rintro y a rfl rfl hf
      have := (frsIn_facts r2 a hf).1
      cases r1 with
      | frs _ _ _ q _ _ => rw [q] at this; cases this
/-! slices -/
def tOfO (C : Ctx) (L : Act) (W : WX) (f : Sg → Rs (Option Int)) : TO := fun σ H Q => ∃ z p, SRel C L z H p σ ∧ OutE C L W (fun _ _ _ _ _ (r : Option Int) (v : Option Int) => r = v) σ z H p Q (f p)
theorem o_none : PO X none (tOfO C L W fun s => .ok none s) := ⟨fun pins s0 σ H Q I ⟨z, p, s, k⟩ => po_none.run pins s0 σ H Q I (k none H z (.refl s) rfl)⟩
theorem o_some (ha : PE X a (tOf C L W fa)) : PO X (some a) (tOfO C L W fun s => (fa s).bind fun r s1 => match r.int? with
    | some i => .ok (some i) s1
    | none => .no) := by
  have h := po_some ha
  refine ⟨fun pins s0 σ H Q I ⟨z, p, s, k⟩ => h.run pins s0 σ H Q I ⟨z, p, s, ?_⟩⟩
  dsimp only at k
  cases e1 : fa p with
  | no => rw [e1] at k; exact k.elim
  | er x p1 => rw [e1] at k; exact k
  | ok x p1 =>
    rw [e1] at k
    intro v H1 z1 g1 r1
    dsimp only [Rs.bind] at k
    cases e2 : x.int? with
    | none => rw [e2] at k; exact k.elim
    | some t =>
      rw [e2] at k
      obtain rfl := int_of e2
      cases r1 with | val h => cases h; exact ⟨_, rfl, k _ _ _ g1 rfl⟩
theorem e_slc {lo hi : Option Expr} {fl fh : Sg → Rs (Option Int)} {p2 : Pos} (hK : X.K = C.K) (ha : PE X a (tOf C L W fa)) (hl : PO X lo (tOfO C L W fl)) (hh : PO X hi (tOfO C L W fh)) :
    PE X (.Subscript a (.Slice lo hi none p2) pos) (tOf C L W fun s => (fa s).bind fun x s1 => (fl s1).bind fun l s2 => (fh s2).bind fun h s3 => match deref s3 x with
      | some u => ret1 s3 (slcV u l h)
      | none => .no) := by
  refine PE.imp (pe_slice (sl_slc hK) ha hl hh) ?_
  rintro σ H Q ⟨z, p, s, k⟩
  refine ⟨z, p, s, ?_⟩
  dsimp only at k
  cases e1 : fa p with
  | no => rw [e1] at k; exact k.elim
  | er x p1 => rw [e1] at k; exact k
  | ok x p1 =>
    rw [e1] at k
    intro v H1 z1 g1 r1
    refine ⟨z1, p1, g1.rel, ?_⟩
    dsimp only [Rs.bind] at k
    cases e2 : fl p1 with
    | no => rw [e2] at k; exact k.elim
    | er y p2 => rw [e2] at k; exact fun cls d H2 z2 g2 q => k cls d H2 z2 (g1.trans s g2) q
    | ok l p2 =>
      rw [e2] at k
      rintro l' H2 z2 g2 rfl
      refine ⟨z2, p2, g2.rel, ?_⟩
      dsimp only [Rs.bind] at k
      cases e3 : fh p2 with
      | no => rw [e3] at k; exact k.elim
      | er y p3 => rw [e3] at k; exact fun cls d H3 z3 g3 q => k cls d H3 z3 ((g1.trans s g2).trans s g3) q
      | ok h p3 =>
        rw [e3] at k
        rintro h' H3 z3 g3 rfl
        have gg := (g1.trans s g2).trans s g3
        have rx := (r1.go g1.rel g2).go g2.rel g3
        dsimp only [Rs.bind] at k
        cases e4 : deref p3 x with
        | none => rw [e4] at k; exact k.elim
        | some m =>
          rw [e4] at k
          dsimp only [Rs.bind] at k
          cases e5 : slcV m l h with
          | none => rw [e5] at k; exact k.elim
          | some r =>
            rw [e5] at k
            exact ⟨z3, m, r, deref_top gg.rel rx e4, e5, fun w H' an => an.fin s gg fun v H1 z1 g1 r1 => k v H1 z1 g1 r1⟩
/-! built-ins -/
theorem rd_bi {bi : Bi} {fl : Sg → Rs (List RV)} : ∀ σ H Q, tOf C L W (fun s => (fl s).bind fun rs s1 => match derefs s1 rs with
    | some l => ret1 s1 (biV bi l)
    | none => .no) σ H Q → tCB (rBi C bi) (tOfL C L W fl) σ H Q := by
  rintro σ H Q ⟨z, p, s, k⟩
  refine ⟨z, p, s, ?_⟩
  dsimp only at k
  cases e1 : fl p with
  | no => rw [e1] at k; exact k.elim
  | er x p1 => rw [e1] at k; exact k
  | ok rs p1 =>
    rw [e1] at k
    intro vs H1 z1 g1 r1
    dsimp only [Rs.bind] at k
    cases e2 : derefs p1 rs with
    | none => rw [e2] at k; exact k.elim
    | some l =>
      rw [e2] at k
      dsimp only [Rs.bind] at k
      cases e3 : biV bi l with
      | none => rw [e3] at k; exact k.elim
      | some r =>
        rw [e3] at k
        exact ⟨z1, l, r, derefs_top g1.rel r1 e2, e3, fun w H' an => an.fin s g1 fun v H1 z1 g1 r1 => k v H1 z1 g1 r1⟩
theorem e_bui {bi : Bi} {e : Expr} {es : List Expr} {fl : Sg → Rs (List RV)} {p : Pos} (hK : X.K = C.K) (hP : X.prog = C.P) (hw : X.w = C.w) (hc : X.calm = true) (hgd : X.A.guards = some []) (hu : X.A.units + 65 < cLine) (hg : Gl X (biName bi)) (hm : X.mg (biName bi) = none)
    (ha : PA X (e :: es) (tOfL C L W fl)) (he : starEach (e :: es) X.env = (false, eval e X.env) :: starEach es X.env) (hpl : (backTo pos (starEach es X.env)).any (·.1) = false) :
    PE X (.Call (.Name (biName bi) p) (e :: es) [] pos) (tOf C L W fun s => (fl s).bind fun rs s1 => match derefs s1 rs with
      | some l => ret1 s1 (biV bi l)
      | none => .no) := by
  have hcall : CallR X (biVal bi) (rBi C bi) := call_bi hK hP hw hc hgd hu
  have hboot := bi_boot bi
  have fin : ∀ {t : TE}, PE X (.Call (.Name (biName bi) p) (e :: es) [] pos) (tCB (rBi C bi) (tOfL C L W fl)) → _ := fun h => PE.imp h rd_bi
  cases bi <;> first
    | exact fin (t := fun _ _ _ => True) (pe_callB hcall hg hm hboot ha (by decide) (by decide) he hpl)
    | exact fin (t := fun _ _ _ => True) (pe_callTy hcall hg hm hboot ha (by decide) (by decide) he hpl)
end
end Mp

/-! MpG: calls of the text's defs. -/
namespace Mp
open PySem PySem.Spec PyProof.Rows L2

/-- a def's promise, where no guard of repr is up -/
structure FnG (C : Ctx) (k : Nat) (f : Addr) (fd : FuncData) (ps : List Str) (sp : Sp) : Prop where
  len : ∀ vs H Q E, sp vs H Q E → vs.length = ps.length
  run : ∀ (A : Around) (outer : List Env) (s : Shared) (H : Hp) (args : Args) (us : List Value) (vs : List V) (Q : VK) (E : XK), Room (3 * k) A → A.guards = some [] → Env0 C.P C.w C.K C.mg C.base A outer s H →
    BindsTo s fd args (ps.zip us) → Vals vs us → sp vs H Q E → codeAny (model C.P C.w) A (.call (.ref f) args) (CR (L2.CX C.P C.w) outer C.P C.w H s Q E) s
/-- what stands for the def d, number g, by the interpreter's runs at n -/
def spOf (C : Ctx) (cl : Cl) (g : Nat) (d : Fd) : Sp := fun vs H Q E => ∃ z as, as.length = d.np ∧ vs.length = d.np ∧ SRel C ⟨[], H, nl⟩ z H as (vs.map some) ∧ match cl g as with
  | .ok r as' => ∀ v H' z', Go C ⟨[], H, nl⟩ z H as (vs.map some) z' H' as' (vs.map some) → RRep C z' H H' as' (vs.map some) r v → Q v H'
  | .er x as' => ∀ cls dd H' z', Go C ⟨[], H, nl⟩ z H as (vs.map some) z' H' as' (vs.map some) → XRep C z' H' x cls dd → E cls dd H'
  | .no => False
structure DefOk (C : Ctx) (k : Nat) (cl : Cl) (g : Nat) (d : Fd) : Prop where
  ex : ∃ (f : Addr) (fd : FuncData), C.mg d.name = some (.ref f) ∧ PySem.W.keepIn C.K (.ref f) = true ∧ FnG C k f fd (d.N.take d.np) (spOf C cl g d) ∧ (d.N.take d.np).length = d.np ∧
    ∀ m, m ≤ d.np → d.np ≤ m + d.dfl.length → ∃ (dvs : List V) (ds : List Value), dvs.length + m = d.np ∧ (∀ z H, RepL C z H (d.dfl.drop (m + d.dfl.length - d.np)) dvs) ∧ Vals dvs ds ∧ L2.Binds C.K fd (d.N.take d.np) ds

section
variable {C : Ctx} {L : Act} {z z' : As} {H H' : Hp} {p : Sg} {σ : L2.St}
/-- the arguments as slots -/
theorem argSlots_len {s : Sg} {mp : List Nat} : ∀ {rs : List RV} {k : Nat} {as : Sg}, argSlots s mp k rs = some as → as.length = rs.length
  | [], _, _, e => by cases e; rfl
  | r :: rs, k, as, e => by
    unfold argSlots at e
    cases q : argSlots s mp (k + 1) rs with
    | none => rw [q] at e; cases e
    | some l =>
      rw [q] at e
      have hl := argSlots_len q
      cases r with
      | val x => cases e; simp [hl]
      | frs x => cases e; simp [hl]
      | bor i =>
        dsimp only at e
        split at e
        · split at e
          · cases e; simp [hl]
          · cases e
        · cases e
/-- what stands in a slot for an argument -/
def SlotFor (p : Sg) : RV → Slot → Prop
  | .val x, sl => sl = .pv x
  | .frs x, sl => sl = .own false x
  | .bor i, sl => ∃ t x, p[i]? = some (.own t x) ∧ sl = .own false x
theorem argSlots_at {s : Sg} {mp : List Nat} : ∀ {rs : List RV} {k : Nat} {as : Sg} {i : Nat} {r : RV}, argSlots s mp k rs = some as → rs[i]? = some r → ∃ sl, as[i]? = some sl ∧ SlotFor s r sl
  | [], _, _, _, _, _, e => by simp at e
  | r :: rs, k, as, i, r', e, ei => by
    unfold argSlots at e
    cases q : argSlots s mp (k + 1) rs with
    | none => rw [q] at e; cases e
    | some l =>
      rw [q] at e
      have rest : ∀ (sl0 : Slot), SlotFor s r sl0 → as = sl0 :: l → ∃ sl, as[i]? = some sl ∧ SlotFor s r' sl := by
        intro sl0 h0 ea
        subst ea
        cases i with
        | zero => simp at ei; subst ei; exact ⟨sl0, by simp, h0⟩
        | succ i => obtain ⟨sl, h1, h2⟩ := argSlots_at q (by simpa using ei); exact ⟨sl, by simpa using h1, h2⟩
      cases r with
      | val x => exact rest _ rfl (Option.some.inj e).symm
      | frs x => exact rest _ rfl (Option.some.inj e).symm
      | bor j =>
        dsimp only at e
        split at e
        · split at e
          · rename_i t x hs
            exact rest _ ⟨_, _, hs, rfl⟩ (Option.some.inj e).symm
          · cases e
        · cases e
theorem RRepL.at {H0 : Hp} : ∀ {rs : List RV} {vs : List V} {i : Nat} {r : RV}, RRepL C z H0 H p σ rs vs → rs[i]? = some r → ∃ v, vs[i]? = some v ∧ RRep C z H0 H p σ r v := by
  intro rs vs i r h
  induction h generalizing i with
  | nil => intro e; simp at e
  | cons a b c ih =>
    intro e
    cases i with
    | zero => simp at e; subst e; exact ⟨_, rfl, a⟩
    | succ i => obtain ⟨v, h1, h2⟩ := ih (by simpa using e); exact ⟨v, by simpa using h1, h2⟩
theorem bors_mem : ∀ {rs : List RV} {i : Nat}, i ∈ bors rs ↔ ∃ k : Nat, rs[k]? = some (RV.bor i)
  | [], i => by simp [bors]
  | r :: rs, i => by
    have ih := @bors_mem rs i
    cases r with
    | bor j =>
      simp only [bors, List.mem_cons, ih]
      constructor
      · rintro (rfl | ⟨k, hk⟩)
        · exact ⟨0, rfl⟩
        · exact ⟨k + 1, by simpa using hk⟩
      · rintro ⟨k, hk⟩
        cases k with
        | zero => simp at hk; exact .inl hk.symm
        | succ k => exact .inr ⟨k, by simpa using hk⟩
    | val x =>
      simp only [bors, ih]
      constructor
      · rintro ⟨k, hk⟩; exact ⟨k + 1, by simpa using hk⟩
      · rintro ⟨k, hk⟩
        cases k with
        | zero => simp at hk
        | succ k => exact ⟨k, by simpa using hk⟩
    | frs x =>
      simp only [bors, ih]
      constructor
      · rintro ⟨k, hk⟩; exact ⟨k + 1, by simpa using hk⟩
      · rintro ⟨k, hk⟩
        cases k with
        | zero => simp at hk
        | succ k => exact ⟨k, by simpa using hk⟩
theorem bors_inj : ∀ {rs : List RV} {i k l : Nat}, (bors rs).Nodup → rs[k]? = some (.bor i) → rs[l]? = some (.bor i) → k = l
  | [], _, _, _, _, e, _ => by simp at e
  | r :: rs, i, k, l, nd, e1, e2 => by
    have tl : (bors rs).Nodup := by
      cases r <;> first | exact nd | exact (List.nodup_cons.mp nd).2
    cases k with
    | zero =>
      cases l with
      | zero => rfl
      | succ l =>
        simp at e1 e2; subst e1
        exact absurd (bors_mem.mpr ⟨l, e2⟩) (List.nodup_cons.mp nd).1
    | succ k =>
      cases l with
      | zero =>
        simp at e1 e2; subst e2
        exact absurd (bors_mem.mpr ⟨k, e1⟩) (List.nodup_cons.mp nd).1
      | succ l => exact congrArg Nat.succ (bors_inj tl (by simpa using e1) (by simpa using e2))
theorem frs_inj {H0 : Hp} : ∀ {rs : List RV} {vs : List V} {i j : Nat} {x y : PV} {a : Addr}, RRepL C z H0 H p σ rs vs → rs[i]? = some (.frs x) → rs[j]? = some (.frs y) → vs[i]? = some (.ref a) → vs[j]? = some (.ref a) → i = j := by
  intro rs vs i j x y a h
  induction h generalizing i j with
  | nil => intro e; simp at e
  | @cons r v rs vs hr hrs hd ih =>
    intro e1 e2 e3 e4
    cases i with
    | zero =>
      cases j with
      | zero => rfl
      | succ j =>
        simp at e1 e2 e3 e4
        exact absurd ⟨j, y, e2, e4⟩ (hd x a e1 e3)
    | succ i =>
      cases j with
      | zero =>
        simp at e1 e2 e3 e4
        exact absurd ⟨i, x, e1, e3⟩ (hd y a e2 e4)
      | succ j => exact congrArg Nat.succ (ih (by simpa using e1) (by simpa using e2) (by simpa using e3) (by simpa using e4))
theorem gb_len : ∀ (rs : List RV) (as s : Sg), (giveBack rs as s).length = s.length
  | [], _, _ => by unfold giveBack; rfl
  | .bor i :: rs, a :: as, s => by unfold giveBack; rw [gb_len rs as]; simp
  | .bor i :: rs, [], s => by unfold giveBack; rfl
  | .val _ :: rs, _ :: as, s => by unfold giveBack; exact gb_len rs as s
  | .val _ :: rs, [], s => by unfold giveBack; rfl
  | .frs _ :: rs, _ :: as, s => by unfold giveBack; exact gb_len rs as s
  | .frs _ :: rs, [], s => by unfold giveBack; rfl
theorem gb_other : ∀ (rs : List RV) (as s : Sg) (j : Nat), j ∉ bors rs → (giveBack rs as s)[j]? = s[j]?
  | [], _, _, _, _ => by unfold giveBack; rfl
  | .bor i :: rs, a :: as, s, j, h => by
    unfold giveBack
    simp only [bors, List.mem_cons, not_or] at h
    rw [gb_other rs as _ j h.2, List.getElem?_set_ne (Ne.symm h.1)]
  | .bor i :: rs, [], s, _, _ => by unfold giveBack; rfl
  | .val _ :: rs, _ :: as, s, j, h => by unfold giveBack; exact gb_other rs as s j h
  | .val _ :: rs, [], s, _, _ => by unfold giveBack; rfl
  | .frs _ :: rs, _ :: as, s, j, h => by unfold giveBack; exact gb_other rs as s j h
  | .frs _ :: rs, [], s, _, _ => by unfold giveBack; rfl
theorem gb_bor : ∀ (rs : List RV) (as s : Sg) (j k : Nat) (a : Slot), (bors rs).Nodup → rs[k]? = some (.bor j) → as[k]? = some a → j < s.length → (giveBack rs as s)[j]? = some a
  | [], _, _, _, _, _, _, e, _, _ => by simp at e
  | _ :: _, [], _, _, _, _, _, _, e, _ => by simp at e
  | r :: rs, b :: as, s, j, 0, a, nd, e1, e2, hj => by
    simp at e1 e2
    subst e1 e2
    unfold giveBack
    rw [gb_other rs as _ j (List.nodup_cons.mp nd).1, List.getElem?_set_self hj]
  | .bor i :: rs, b :: as, s, j, k + 1, a, nd, e1, e2, hj => by
    unfold giveBack
    exact gb_bor rs as _ j k a (List.nodup_cons.mp nd).2 (by simpa using e1) (by simpa using e2) (by simpa using hj)
  | .val _ :: rs, b :: as, s, j, k + 1, a, nd, e1, e2, hj => by
    unfold giveBack
    exact gb_bor rs as s j k a nd (by simpa using e1) (by simpa using e2) hj
  | .frs _ :: rs, b :: as, s, j, k + 1, a, nd, e1, e2, hj => by
    unfold giveBack
    exact gb_bor rs as s j k a nd (by simpa using e1) (by simpa using e2) hj
theorem map_some_at {vs : List V} {i : Nat} {v : V} : (vs.map some)[i]? = some (some v) ↔ vs[i]? = some v := by
  rw [List.getElem?_map]
  cases vs[i]? <;> simp
/-- the callee's slots -/
theorem args_rel {H0 : Hp} {rs : List RV} {vs : List V} {mp : List Nat} {asl : Sg} {ds : List PV} {dvs : List V} (s : SRel C L z H p σ) (rr : RRepL C z H0 H p σ rs vs) (nd : (bors rs).Nodup)
    (ea : argSlots p mp 0 rs = some asl) (rd : RepL C z H ds dvs) : SRel C ⟨[], H, nl⟩ z H (asl ++ ds.map Slot.pv) ((vs ++ dvs).map some) := by
  have l1 := argSlots_len ea
  have l2 := rr.length
  have l3 := rd.length
  have at1 : ∀ (i : Nat) (sl : Slot), (asl ++ ds.map Slot.pv)[i]? = some sl → (i < rs.length ∧ ∃ r v, rs[i]? = some r ∧ vs[i]? = some v ∧ RRep C z H0 H p σ r v ∧ SlotFor p r sl ∧ ((vs ++ dvs).map some)[i]? = some (some v)) ∨ ∃ x v, sl = .pv x ∧ Rep C z H x v ∧ ((vs ++ dvs).map some)[i]? = some (some v) := by
    intro i sl e
    by_cases hi : i < asl.length
    · rw [List.getElem?_append_left hi] at e
      have hr : i < rs.length := by omega
      obtain ⟨sl', h1, h2⟩ := argSlots_at ea (List.getElem?_eq_getElem hr)
      rw [e] at h1; cases h1
      obtain ⟨v, h3, h4⟩ := rr.at (List.getElem?_eq_getElem hr)
      refine .inl ⟨hr, _, v, List.getElem?_eq_getElem hr, h3, h4, h2, ?_⟩
      rw [map_some_at, List.getElem?_append_left (by omega)]; exact h3
    · rw [List.getElem?_append_right (by omega), List.getElem?_map] at e
      obtain ⟨x, e1, e2⟩ := Option.map_eq_some_iff.mp e
      obtain ⟨v, h1, h2⟩ := rd.get e1
      refine .inr ⟨x, v, e2.symm, h2, ?_⟩
      rw [map_some_at, List.getElem?_append_right (by omega)]
      rw [show i - vs.length = i - asl.length by omega]; exact h1
  refine ⟨by simp; omega, s.zt, fun _ e => e, fun i x e => ?_, fun i t x e => ?_, fun i j t u x y a e1 e2 e3 e4 => ?_, (fun _ q => by cases q), s.tb, fun i hs e => ?_⟩
  · rcases at1 i _ e with ⟨_, r, v, _, _, h3, h4, h5⟩ | ⟨y, v, e1, h2, h3⟩
    · cases r with
      | val y => cases h4; cases h3 with | val h => exact ⟨v, h5, h⟩
      | frs y => cases h4
      | bor j => obtain ⟨_, _, _, q⟩ := h4; cases q
    · cases e1; exact ⟨v, h3, h2⟩
  · rcases at1 i _ e with ⟨_, r, v, _, _, h3, h4, h5⟩ | ⟨y, v, e1, h2, h3⟩
    · cases r with
      | val y => cases h4
      | frs y => cases h4; cases h3 with | frs q1 q2 q3 q4 q5 q6 => exact ⟨_, _, h5, q2, q4, q5, q6, fun q => by cases q⟩
      | bor j =>
        obtain ⟨t', y, q1, q2⟩ := h4
        cases q2
        cases h3 with
        | bor h3 =>
          obtain ⟨a, o, g1, g2, g3, g4, g5, _⟩ := s.ow j _ _ q1
          rw [h3] at g1; cases g1
          exact ⟨a, o, h5, g2, g3, g4, g5, fun q => by cases q⟩
    · cases e1
  · rcases at1 i _ e1 with ⟨hi, r, v, r1, v1, h3, h4, h5⟩ | ⟨_, _, q, _⟩
    · rcases at1 j _ e2 with ⟨hj, r', v', r1', v1', h3', h4', h5'⟩ | ⟨_, _, q, _⟩
      · rw [e3] at h5; cases h5
        rw [e4] at h5'; cases h5'
        cases r with
        | val y => cases h4
        | frs y =>
          cases r' with
          | val y => cases h4'
          | frs y' => exact frs_inj rr r1 r1' v1 v1'
          | bor j' =>
            obtain ⟨t', y, q1, q2⟩ := h4'
            cases h3' with
            | bor h3' => cases h3 with | frs _ _ q3 _ _ _ => exact absurd ⟨j', _, _, q1, h3'⟩ q3
        | bor i' =>
          obtain ⟨t', y, q1, q2⟩ := h4
          cases h3 with
          | bor h3 =>
            cases r' with
            | val y => cases h4'
            | frs y' => cases h3' with | frs _ _ q3 _ _ _ => exact absurd ⟨i', _, _, q1, h3⟩ q3
            | bor j' =>
              obtain ⟨t2, y2, q1', q2'⟩ := h4'
              cases h3' with
              | bor h3' =>
                have := s.dj i' j' _ _ _ _ _ q1 q1' h3 h3'
                subst this
                exact bors_inj nd r1 r1'
      · cases q
    · cases q
  · rcases at1 i _ e with ⟨_, r, v, _, _, h3, h4, h5⟩ | ⟨y, v, e1, h2, h3⟩
    · cases r with
      | val y => cases h4
      | frs y => cases h4
      | bor j => obtain ⟨_, _, _, q⟩ := h4; cases q
    · cases e1
/-- behind a call: the caller's state -/
theorem go_call {z0 : As} {H0 : Hp} {p0 : Sg} {rs : List RV} {vs : List V} {mp : List Nat} {asl as' : Sg} {ds : List PV} {dvs : List V} (s : SRel C L z0 H0 p0 σ) (g1 : Go C L z0 H0 p0 σ z H p σ) (rr : RRepL C z H0 H p σ rs vs) (nd : (bors rs).Nodup)
    (ea : argSlots p mp 0 rs = some asl) (rd : RepL C z H ds dvs) (g2 : Go C ⟨[], H, nl⟩ z H (asl ++ ds.map Slot.pv) ((vs ++ dvs).map some) z' H' as' ((vs ++ dvs).map some)) :
    Go C L z0 H0 p0 σ z' H' (giveBack rs as' p) σ ∧ ∀ a, Own (giveBack rs as' p) σ a → Own p σ a := by
  have sa := args_rel g1.rel rr nd ea rd
  have l1 := argSlots_len ea
  have l2 := rr.length
  have sq := g1.rel
  -- what the callee may change: borrowed lists, new ones
  have ownA : ∀ a, Own (asl ++ ds.map Slot.pv) ((vs ++ dvs).map some) a → Own p σ a ∨ (H0 a = none ∧ ¬ Own p σ a) := by
    rintro a ⟨i, t, x, e1, e2⟩
    by_cases hi : i < asl.length
    · rw [List.getElem?_append_left hi] at e1
      have hr : i < rs.length := by omega
      obtain ⟨sl', h1, h2⟩ := argSlots_at ea (List.getElem?_eq_getElem hr)
      rw [e1] at h1; cases h1
      obtain ⟨v, h3, h4⟩ := rr.at (List.getElem?_eq_getElem hr)
      rw [map_some_at, List.getElem?_append_left (by omega), h3] at e2
      cases e2
      generalize hrr : rs[i] = r at h2 h4
      cases r with
      | val y => cases h2
      | frs y => cases h4 with | frs q1 q2 q3 _ _ _ => exact .inr ⟨q1, q3⟩
      | bor j =>
        obtain ⟨t', y, q1, q2⟩ := h2
        cases h4 with | bor h4 => exact .inl ⟨j, t', y, q1, h4⟩
    · rw [List.getElem?_append_right (by omega), List.getElem?_map] at e1
      obtain ⟨_, _, q⟩ := Option.map_eq_some_iff.mp e1
      cases q
  -- a slot behind the call
  have slotB : ∀ (j : Nat) (sl : Slot), (giveBack rs as' p)[j]? = some sl → (j ∉ bors rs ∧ p[j]? = some sl) ∨ ∃ k : Nat, rs[k]? = some (RV.bor j) ∧ as'[k]? = some sl ∧ ∃ v : V, σ[j]? = some (some v) ∧ ((vs ++ dvs).map some)[k]? = some (some v) ∧ ∃ (t : Bool) (x : PV), p[j]? = some (Slot.own t x) := by
    intro j sl e
    by_cases hj : j ∈ bors rs
    · obtain ⟨k, hk⟩ := bors_mem.mp hj
      have hkr : k < rs.length := (List.getElem?_eq_some_iff.mp hk).1
      obtain ⟨sl', h1, t, x, h2, h3⟩ := argSlots_at ea hk
      obtain ⟨v, h4, h5⟩ := rr.at hk
      have hjl : j < p.length := (List.getElem?_eq_some_iff.mp h2).1
      have la : as'.length = ((vs ++ dvs).map some).length := g2.rel.len
      have hka : k < as'.length := by rw [la]; simp; omega
      have e2 := gb_bor rs as' p j k as'[k] nd hk (List.getElem?_eq_getElem hka) hjl
      rw [e] at e2
      have e3 : sl = as'[k] := Option.some.inj e2
      subst e3
      cases h5 with
      | bor h5 => exact .inr ⟨k, hk, List.getElem?_eq_getElem hka, v, h5, by rw [map_some_at, List.getElem?_append_left (by omega)]; exact h4, t, x, h2⟩
    · rw [gb_other rs as' p j hj] at e
      exact .inl ⟨hj, e⟩
  have mok := sa.mok
  have keep1 : ∀ a o, H a = some o → ¬ Own (asl ++ ds.map Slot.pv) ((vs ++ dvs).map some) a → NT o → H' a = some o := g2.stp.keep
  have ownB : ∀ a, Own (giveBack rs as' p) σ a → Own p σ a := by
    rintro a ⟨j, t, x, e1, e2⟩
    rcases slotB j _ e1 with ⟨_, q⟩ | ⟨k, _, _, v, q1, _, t', y, q2⟩
    · exact ⟨j, t, x, q, e2⟩
    · exact ⟨j, t', y, q2, e2⟩
  -- a list of the caller that was not lent
  have notLent : ∀ (j : Nat) (t : Bool) (x : PV) (a : Addr), j ∉ bors rs → p[j]? = some (.own t x) → σ[j]? = some (some (.ref a)) → ¬ Own (asl ++ ds.map Slot.pv) ((vs ++ dvs).map some) a := by
    rintro j t x a hj e1 e2 ⟨i, u, y, e3, e4⟩
    by_cases hi : i < asl.length
    · rw [List.getElem?_append_left hi] at e3
      have hr : i < rs.length := by omega
      obtain ⟨sl', h1, h2⟩ := argSlots_at ea (List.getElem?_eq_getElem hr)
      rw [e3] at h1; cases h1
      obtain ⟨v, h3, h4⟩ := rr.at (List.getElem?_eq_getElem hr)
      rw [map_some_at, List.getElem?_append_left (by omega), h3] at e4
      cases e4
      have hrr : rs[i]? = some rs[i] := List.getElem?_eq_getElem hr
      generalize rs[i] = r at h2 h4 hrr
      cases r with
      | val y => cases h2
      | frs y => cases h4 with | frs _ _ q3 _ _ _ => exact q3 ⟨j, t, x, e1, e2⟩
      | bor j' =>
        obtain ⟨t', y', q1, _⟩ := h2
        cases h4 with
        | bor h4 =>
          have := sq.dj j j' _ _ _ _ _ e1 q1 e2 h4
          subst this
          exact hj (bors_mem.mpr ⟨i, hrr⟩)
    · rw [List.getElem?_append_right (by omega), List.getElem?_map] at e3
      obtain ⟨_, _, q⟩ := Option.map_eq_some_iff.mp e3
      cases q
  refine ⟨⟨⟨by rw [gb_len]; exact sq.len, g2.rel.zt, fun a e => sq.h0 a (g2.stp.there a e), fun j x e => ?_, fun j t x e => ?_, fun i j t u x y a e1 e2 e3 e4 => ?_, sq.mp, g2.rel.tb, fun j hs e => by
    rcases slotB j _ e with ⟨nj, q⟩ | ⟨k, _, q, v, q1, q2, t', y', q3⟩
    · exact (sq.lm j hs q).step g2.stp mok
    · exact (g2.rel.lm k hs q).any rfl (by rw [q1, q2])⟩, ⟨fun a o e n nt => ?_, fun a e => g1.stp.there a (g2.stp.there a e), fun a e n => ?_, fun a e => ?_⟩, fun a e => ?_⟩, ownB⟩
  · rcases slotB j _ e with ⟨_, q⟩ | ⟨k, _, q, v, q1, q2, _⟩
    · obtain ⟨v, h1, h2⟩ := sq.pv j x q
      exact ⟨v, h1, h2.step g2.stp mok⟩
    · obtain ⟨w, h1, h2⟩ := g2.rel.pv k x q
      rw [q2] at h1; cases h1
      exact ⟨v, q1, h2⟩
  · rcases slotB j _ e with ⟨nj, q⟩ | ⟨k, _, q, v, q1, q2, t', y', q3⟩
    · obtain ⟨a, o, h1, h2, h3, h4, h5, h6⟩ := sq.ow j t x q
      have nl := notLent j t x a nj q h1
      exact ⟨a, o, h1, g2.stp.priv a h2 nl, keep1 a o h3 nl h4.nt, h4, h5.step g2.stp mok fun b eb => by cases eb; exact nl, h6⟩
    · obtain ⟨a, o, h1, h2, h3, h4, h5, h6⟩ := g2.rel.ow k t x q
      rw [q2] at h1; cases h1
      refine ⟨a, o, q1, h2, h3, h4, h5, fun ht => ?_⟩
      have := h6 ht
      obtain ⟨a', o', g1', _, g3', _⟩ := sq.ow j t' y' q3
      rw [q1] at g1'; cases g1'
      rw [show H a = none from this] at g3'; cases g3'
  · have own1 : ∀ (j : Nat) (t : Bool) (x : PV), (giveBack rs as' p)[j]? = some (.own t x) → ∃ (t' : Bool) (x' : PV), p[j]? = some (Slot.own t' x') := fun j t x e => by
      rcases slotB j _ e with ⟨_, q⟩ | ⟨_, _, _, _, _, _, t', y, q⟩
      · exact ⟨_, _, q⟩
      · exact ⟨_, _, q⟩
    obtain ⟨t', x', q1⟩ := own1 _ _ _ e1
    obtain ⟨u', y', q2⟩ := own1 _ _ _ e2
    exact sq.dj i j _ _ _ _ a q1 q2 e3 e4
  · have nh : H0 a ≠ none := by rw [e]; intro z; cases z
    refine keep1 a o (g1.stp.keep a o e n nt) (fun q => ?_) nt
    rcases ownA a q with q | q
    · rcases g1.own a q with q | q
      · exact n q
      · exact nh q
    · exact nh q.1
  · have nh : H0 a ≠ none := s.zt a e
    refine g2.stp.priv a (g1.stp.priv a e n) fun q => ?_
    rcases ownA a q with q | q
    · rcases g1.own a q with q | q
      · exact n q
      · exact nh q
    · exact nh q.1
  · rcases g2.stp.new a e with q | q
    · exact g1.stp.new a q
    · exact .inr (g1.stp.there a q)
  · exact g1.own a (ownB a e)
end
end Mp

/-! MpH: the rule of a call. -/
namespace Mp
open PySem PySem.Spec PyProof.Rows L2

/-- where a body of the text runs -/
structure XOk (C : Ctx) (W : WX) (k : Nat) (X : Cx) (N : List Str) (sc : Scope) : Prop where
  prog : X.prog = C.P
  w : X.w = C.w
  K : X.K = C.K
  mg : X.mg = C.mg
  base : X.base = C.base
  names : X.N = N
  nd : N.Nodup
  sc : X.env.scope = sc
  calm : X.calm = true
  room : Room (3 * k) X.A
  gd : X.A.guards = some []
  tk : Takes X W
  po : PassesOwn (model X.prog X.w) X.A X.env X.xe
  gv : ∀ g v, C.gv g = some v → ∃ f, v = .ref f
section
variable {C : Ctx} {L : Act} {W : WX} {X : Cx} {N : List Str} {sc : Scope} {k : Nat}
theorem XOk.hu (x : XOk C W k X N sc) : X.A.units + 65 < cLine := by
  have := x.room.un
  omega
theorem call_run {cl : Cl} {g : Nat} {d : Fd} {f : Addr} {fd : FuncData} {z z1 : As} {H H1 : Hp} {p p1 : Sg} {σ : L2.St} {rs : List RV} {vs : List V} {us : List Value} {Q : VK} {pins : List (Addr × Obj)} {s1 : Shared} (x : XOk C W k X N sc) (hd : C.tb g = some d)
    (F : FnG C k f fd (d.N.take d.np) (spOf C cl g d)) (hnp : (d.N.take d.np).length = d.np)
    (B : ∀ m, m ≤ d.np → d.np ≤ m + d.dfl.length → ∃ (dvs : List V) (ds : List Value), dvs.length + m = d.np ∧ (∀ z H, RepL C z H (d.dfl.drop (m + d.dfl.length - d.np)) dvs) ∧ Vals dvs ds ∧ L2.Binds C.K fd (d.N.take d.np) ds)
    (s : SRel C L z H p σ) (g1 : Go C L z H p σ z1 H1 p1 σ) (rr : RRepL C z1 H H1 p1 σ rs vs) (I : Inv X pins σ H1 s1) (r : Vals vs us)
    (q : OutE C L W (RRep C) σ z H p Q (callG cl C.tb g rs p1)) : wpAny (model X.prog X.w) X.A (call (.ref f) us) (EP X pins σ Q) X.xe s1 := by
  unfold callG at q
  rw [hd] at q
  dsimp only at q
  split at q
  · rename_i hc
    obtain ⟨h1, h2, nd⟩ := hc
    cases ea : argSlots p1 d.mp 0 rs with
    | none => rw [ea] at q; exact q.elim
    | some asl =>
      rw [ea] at q
      dsimp only at q
      obtain ⟨dvs, ds, hlen, hrep, hv, hb⟩ := B rs.length h1 h2
      have l1 := argSlots_len ea
      have l2 := rr.length
      have rd := hrep z1 H1
      have ld := rd.length
      have sa := args_rel g1.rel rr nd ea rd
      have hsp : spOf C cl g d (vs ++ dvs) H1 Q (fun cls dd H' => W cls dd σ H') := by
        refine ⟨z1, asl ++ (d.dfl.drop (rs.length + d.dfl.length - d.np)).map Slot.pv, ?_, ?_, sa, ?_⟩
        · rw [List.length_append, List.length_map, ld]; omega
        · rw [List.length_append]; omega
        · cases ec : cl g (asl ++ (d.dfl.drop (rs.length + d.dfl.length - d.np)).map Slot.pv) with
          | no => rw [ec] at q; exact q
          | er e as' =>
            rw [ec] at q
            exact fun cls dd H' z' g2 xr => q cls dd H' z' (go_call s g1 rr nd ea rd g2).1 xr
          | ok rv as' =>
            rw [ec] at q
            dsimp only at q
            intro v H' z' g2 rr2
            obtain ⟨g3, og⟩ := go_call s g1 rr nd ea rd g2
            cases hbr : isBor rv with
            | true => rw [hbr] at q; exact q.elim
            | false =>
              rw [hbr] at q
              refine q v H' z' g3 ?_
              cases rr2 with
              | val h => exact .val h
              | frs q1 q2 q3 q4 q5 q6 =>
                refine .frs (g1.stp.there _ q1) q2 (fun o => ?_) q4 q5 q6
                obtain ⟨i, t, y, e1, e2⟩ := og _ o
                obtain ⟨a', o', e3, _, e5, _⟩ := g1.rel.ow i t y e1
                rw [e2] at e3; cases e3
                rw [q1] at e5; cases e5
              | bor h => cases hbr
      have r2 : Vals (vs ++ dvs) (us ++ ds) := r.append hv
      have hl : (us ++ ds).length = (d.N.take d.np).length := by rw [← r2.length]; exact F.len _ _ _ _ hsp
      have xp := x.prog
      have xw := x.w
      have xK := x.K
      have xm := x.mg
      have xb := x.base
      have tk := x.tk
      have room := x.room
      have gd := x.gd
      clear x
      rcases X with ⟨P, w, K, mg, base, A, N', s0, H0', env, outer, stack, ex, fn, calm, pn, xe⟩
      dsimp only at xp xw xK xm xb
      subst xp xw xK xm xb
      refine wpAny_call (codeAny_mono (F.run A stack s1 H1 ⟨us, []⟩ (us ++ ds) (vs ++ dvs) Q _ room gd I.env0 (hb s1 us I.kIn hl) r2 hsp) fun res s' hq => ?_)
      cases res with
      | error e => exact tk _ _ (XE.of_call I (fun cls dd H' h => h) hq)
      | ok fl =>
        cases fl with
        | ret u => exact I.after hq
        | next => exact False.elim hq
        | brk => exact False.elim hq
        | cont => exact False.elim hq
  · exact q.elim
theorem e_cal {cl : Cl} {g : Nat} {d : Fd} {e : Expr} {es : List Expr} {fl : Sg → Rs (List RV)} {p0 pos : Pos} (x : XOk C W k X N sc) (hd : C.tb g = some d) (D : DefOk C k cl g d) (hg : Gl X d.name) (hdb : (d.name == ("__debug__" : Str)) = false)
    (ha : PA X (e :: es) (tOfL C L W fl)) (he : starEach (e :: es) X.env = (false, eval e X.env) :: starEach es X.env) (hpl : (backTo pos (starEach es X.env)).any (·.1) = false) :
    PE X (.Call (.Name d.name p0) (e :: es) [] pos) (tOf C L W fun s => (fl s).bind fun rs s1 => callG cl C.tb g rs s1) := by
  refine ⟨fun pins s0 σ H Q I ⟨z, p, s, q⟩ => ?_⟩
  obtain ⟨f, fd, hm, hk, F, hnp, B⟩ := D.ex
  refine wpAny_Call_Name_kw (ld_glob I hg (by rw [x.mg]; exact hm) ?_ hdb)
  refine PySem.W.callWith_K (h₀ := X.base) I.ok.mod.kin (by rw [x.K]; exact hk) (thn (ha.run pos pins s0 σ H (fun vs H1 => ∃ z1 p1 rs, Go C L z H p σ z1 H1 p1 σ ∧ RRepL C z1 H H1 p1 σ rs vs ∧ OutE C L W (RRep C) σ z H p Q (callG cl C.tb g rs p1)) I ⟨z, p, s, ?_⟩) fun us s1 ⟨vs, H1, I1, r, z1, p1, rs, g1, rr, q1⟩ => ⟨I1.kIn, ?_⟩) he hpl
  · dsimp only at q
    cases e1 : fl p with
    | no => rw [e1] at q; exact q
    | er y p1 => rw [e1] at q; exact q
    | ok rs p1 =>
      rw [e1] at q
      exact fun vs H1 z1 g1 rr => ⟨z1, p1, rs, g1, rr, q⟩
  · exact call_run x hd F hnp B s g1 rr I1 r q1
theorem e_cal0 {cl : Cl} {g : Nat} {d : Fd} {p0 pos : Pos} (x : XOk C W k X N sc) (hd : C.tb g = some d) (D : DefOk C k cl g d) (hg : Gl X d.name) (hdb : (d.name == ("__debug__" : Str)) = false) :
    PE X (.Call (.Name d.name p0) [] [] pos) (tOf C L W fun s => (Rs.ok ([] : List RV) s).bind fun rs s1 => callG cl C.tb g rs s1) := by
  refine ⟨fun pins s0 σ H Q I ⟨z, p, s, q⟩ => ?_⟩
  obtain ⟨f, fd, hm, hk, F, hnp, B⟩ := D.ex
  refine wpAny_Call_Name_kw (ld_glob I hg (by rw [x.mg]; exact hm) ?_ hdb)
  exact PySem.W.callWith_K0 I.kIn (by rw [x.K]; exact hk) (call_run x hd F hnp B s (.refl s) .nil I .nil q)
end
end Mp

/-! MpL: targets, list comprehensions. -/
namespace Mp
open PySem PySem.Spec PyProof.Rows L2

section
variable {C : Ctx} {L : Act} {z z' : As} {H H' : Hp} {p p' : Sg} {σ σ' : L2.St}
/-- a tree is stored in a slot -/
theorem SRel.set {i : Nat} {x : PV} {v : V} (s : SRel C L z H p σ) (hi : i < p.length) (r : Rep C z H x v) (hm : i ∉ L.mp.map (·.1)) : SRel C L z H (p.set i (.pv x)) (σ.set i (some v)) := by
  have hi' : i < σ.length := by rw [← s.len]; exact hi
  have own' : ∀ {j : Nat} {u : Bool} {y : PV}, (p.set i (.pv x))[j]? = some (.own u y) → j ≠ i ∧ p[j]? = some (.own u y) := fun {j u y} q => by
    by_cases hj : i = j
    · subst hj; rw [List.getElem?_set_self hi] at q; cases q
    · rw [List.getElem?_set_ne hj] at q; exact ⟨Ne.symm hj, q⟩
  refine ⟨by simpa using s.len, s.zt, s.h0, fun j y e => ?_, fun j t y e => ?_, fun j k t u y y2 a e1 e2 e3 e4 => ?_, (fun q hq => ?_), s.tb, fun j hs q => (s.lm j hs (lam_set (fun _ => by simp) q).2).at (List.getElem?_set_ne (Ne.symm (lam_set (fun _ => by simp) q).1))⟩
  · by_cases hj : i = j
    · subst hj
      rw [List.getElem?_set_self hi] at e; cases e
      exact ⟨v, List.getElem?_set_self hi', r⟩
    · rw [List.getElem?_set_ne hj] at e ⊢
      exact s.pv j y e
  · obtain ⟨hj, e'⟩ := own' e
    rw [List.getElem?_set_ne (Ne.symm hj)]
    exact s.ow j t y e'
  · obtain ⟨hj, e1'⟩ := own' e1
    obtain ⟨hk, e2'⟩ := own' e2
    rw [List.getElem?_set_ne (Ne.symm hj)] at e3
    rw [List.getElem?_set_ne (Ne.symm hk)] at e4
    exact s.dj j k t u y y2 a e1' e2' e3 e4
  · rw [List.getElem?_set_ne fun e => hm (List.mem_map.mpr ⟨q, hq, e.symm⟩)]
    exact s.mp q hq
theorem own_set {i : Nat} {x : PV} {v : V} {a : Addr} (hi : i < p.length) : Own (p.set i (.pv x)) (σ.set i (some v)) a → Own p σ a := by
  rintro ⟨j, t, y, e1, e2⟩
  by_cases hj : i = j
  · subst hj; rw [List.getElem?_set_self hi] at e1; cases e1
  · rw [List.getElem?_set_ne hj] at e1 e2; exact ⟨j, t, y, e1, e2⟩
end
section
variable {C : Ctx} {L : Act} {W : WX} {X : Cx} {N : List Str} {sc : Scope} {k : Nat}
/-- a target's reading -/
def gOf (C : Ctx) (L : Act) (tg : Tg) : TG := fun v σ H Q => ∃ z p x, SRel C L z H p σ ∧ Rep C z H x v ∧ match tg.store x p with
  | some p' => ∀ σ', SRel C L z H p' σ' → (∀ a, Own p' σ' a → Own p σ a) → (∀ j, j ∉ tg.slots → σ'[j]? = σ[j]?) → Q σ' H
  | none => False
def gsOf (C : Ctx) (L : Act) (ts : List Tg) : TGs := fun vs σ H Q => ∃ z p xs, SRel C L z H p σ ∧ RepL C z H xs vs ∧ match Tg.storeL ts xs p with
  | some p' => ∀ σ', SRel C L z H p' σ' → (∀ a, Own p' σ' a → Own p σ a) → (∀ j, j ∉ Tg.slotsL ts → σ'[j]? = σ[j]?) → Q σ' H
  | none => False
theorem g_nm {i : Nat} {x : Str} {pos : Pos} (h : PG X (.Name x pos) (gName i)) (hm : i ∉ L.mp.map (·.1)) : PG X (.Name x pos) (gOf C L (.nm i)) := by
  refine PG.imp h ?_
  rintro v σ H Q ⟨z, p, y, s, r, q⟩
  unfold Tg.store at q
  split at q
  · rename_i p' e
    split at e
    · rename_i hi
      cases e
      exact q _ (s.set hi r hm) (fun a => own_set hi) fun j hj => List.getElem?_set_ne fun e => hj (by simp [Tg.slots, e])
    · cases e
  · exact q.elim
theorem gs_nil : PGs X [] (gsOf C L []) := by
  have h : PGs X [] gNil := pgs_nil
  refine ⟨fun pins s0 σ H vs us Q I r q => h.run pins s0 σ H vs us Q I r ?_⟩
  obtain ⟨z, p, xs, s, rp, q⟩ := q
  cases xs with
  | nil => cases rp; exact ⟨rfl, q σ s (fun _ e => e) fun _ _ => rfl⟩
  | cons => exact q.elim
theorem gs_cons {e : Expr} {es : List Expr} {t : Tg} {ts : List Tg} (h1 : PG X e (gOf C L t)) (h2 : PGs X es (gsOf C L ts)) (hs : (assignEach (e :: es) X.env).map (·.2) = assign e X.env :: (assignEach es X.env).map (·.2)) : PGs X (e :: es) (gsOf C L (t :: ts)) := by
  have h := pgs_cons h1 h2 hs
  refine ⟨fun pins s0 σ H vs us Q I r q => h.run pins s0 σ H vs us Q I r ?_⟩
  obtain ⟨z, p, xs, s, rp, q⟩ := q
  cases rp with
  | nil => exact q.elim
  | @cons x v xs vs rx rxs =>
    refine ⟨v, vs, rfl, z, p, x, s, rx, ?_⟩
    unfold Tg.storeL at q
    cases e1 : t.store x p with
    | none => rw [e1] at q; exact q
    | some p1 =>
      rw [e1] at q
      refine fun σ1 s1 o1 k1 => ⟨z, p1, xs, s1, rxs, ?_⟩
      dsimp only at q
      cases e2 : Tg.storeL ts xs p1 with
      | none => rw [e2] at q; exact q
      | some p2 =>
        rw [e2] at q
        exact fun σ2 s2 o2 k2 => q σ2 s2 (fun a o => o1 a (o2 a o)) fun j hj => by
          simp only [Tg.slotsL, List.mem_append, not_or] at hj
          rw [k2 j hj.2, k1 j hj.1]
theorem storeL_len : ∀ (ts : List Tg) (xs : List PV) (p p' : Sg), Tg.storeL ts xs p = some p' → xs.length = ts.length
  | [], [], _, _, _ => rfl
  | [], _ :: _, _, _, e => by simp [Tg.storeL] at e
  | _ :: _, [], _, _, e => by simp [Tg.storeL] at e
  | t :: ts, x :: xs, p, p', e => by
    unfold Tg.storeL at e
    split at e
    · rename_i p1 _; simp [storeL_len ts xs p1 p' e]
    · cases e
theorem g_tp {es : List Expr} {ts : List Tg} {kk : Nat} {pos : Pos} (hK : X.K = C.K) (hc : X.calm = true) (h : PGs X es (gsOf C L ts)) (hn : (assignEach es X.env).length = ts.length) (hst : (assignEach es X.env).findIdx? (·.1) = none) : PG X (.Tuple es kk pos) (gOf C L (.tp ts)) := by
  refine PG.imp (pg_tup (n := ts.length) hc h hn hst) ?_
  rintro v σ H Q ⟨z, p, y, s, r, q⟩
  cases y with
  | tup xs =>
    cases r with
    | @tup a _ vs sq rl =>
      unfold Tg.store at q
      refine ⟨a, vs, rfl, by rw [hK]; exact sq, ?_, z, p, xs, s, rl, ?_⟩
      · split at q
        · rename_i p' e; rw [← rl.length]; exact storeL_len _ _ _ _ e
        · exact q.elim
      · exact q
  | _ => exact q.elim
end
end Mp
namespace Mp
mutual
theorem store_len : ∀ (t : Tg) (x : PV) (p p' : Sg), t.store x p = some p' → p'.length = p.length
  | .nm i, x, p, p', e => by
    unfold Tg.store at e
    split at e
    · cases e; simp
    · cases e
  | .tp ts, .tup xs, p, p', e => storeL_len2 ts xs p p' (by unfold Tg.store at e; exact e)
  | .tp ts, .non, p, p', e => by simp [Tg.store] at e
  | .tp ts, .bl _, p, p', e => by simp [Tg.store] at e
  | .tp ts, .int _, p, p', e => by simp [Tg.store] at e
  | .tp ts, .str _, p, p', e => by simp [Tg.store] at e
  | .tp ts, .lst _, p, p', e => by simp [Tg.store] at e
  | .tp ts, .ty _, p, p', e => by simp [Tg.store] at e
  | .tp ts, .fn _, p, p', e => by simp [Tg.store] at e
  | .tp ts, .frz _, p, p', e => by simp [Tg.store] at e
  | .tp ts, .dct _ _, p, p', e => by simp [Tg.store] at e
  | .tp ts, .ins _ _, p, p', e => by simp [Tg.store] at e
  | .tp ts, .cas _ _, p, p', e => by simp [Tg.store] at e
  | .tp ts, .dic _, p, p', e => by simp [Tg.store] at e
theorem storeL_len2 : ∀ (ts : List Tg) (xs : List PV) (p p' : Sg), Tg.storeL ts xs p = some p' → p'.length = p.length
  | [], [], p, p', e => by unfold Tg.storeL at e; cases e; rfl
  | [], _ :: _, _, _, e => by simp [Tg.storeL] at e
  | _ :: _, [], _, _, e => by simp [Tg.storeL] at e
  | t :: ts, x :: xs, p, p', e => by
    unfold Tg.storeL at e
    split at e
    · rename_i p1 e1; rw [storeL_len2 ts xs p1 p' e, store_len t x p p1 e1]
    · cases e
end
end Mp

/-! MpM: list comprehensions. -/
namespace Mp
open PySem PySem.Spec PyProof.Rows L2

section
theorem wipeP_len (p : Sg) : ∀ own, (wipeP p own).length = p.length
  | [] => rfl
  | v :: vs => by unfold wipeP; rw [List.length_set, wipeP_len p vs]
theorem wipeP_out {p : Sg} {i : Nat} : ∀ {own : List Nat}, i ∉ own → (wipeP p own)[i]? = p[i]?
  | [], _ => rfl
  | v :: vs, h => by
    simp only [List.mem_cons, not_or] at h
    unfold wipeP
    rw [List.getElem?_set_ne (Ne.symm h.1), wipeP_out h.2]
theorem wipeP_in {p : Sg} {i : Nat} {sl : Slot} : ∀ {own : List Nat}, i ∈ own → (wipeP p own)[i]? = some sl → sl = .un
  | [], h, _ => by cases h
  | v :: vs, h, e => by
    unfold wipeP at e
    by_cases hv : v = i
    · subst hv
      by_cases hl : v < (wipeP p vs).length
      · rw [List.getElem?_set_self hl] at e; cases e; rfl
      · rw [List.getElem?_eq_none (by simpa using hl)] at e; cases e
    · rw [List.getElem?_set_ne hv] at e
      rcases List.mem_cons.mp h with h | h
      · exact absurd h.symm hv
      · exact wipeP_in h e
theorem wipe_in {σ : L2.St} {i : Nat} : ∀ {own : List Nat}, i ∈ own → i < σ.length → (wipe σ own)[i]? = some none
  | [], h, _ => by cases h
  | v :: vs, h, hl => by
    unfold wipe
    by_cases hv : v = i
    · subst hv; rw [List.getElem?_set_self (by rw [wipe_length]; exact hl)]
    · rw [List.getElem?_set_ne hv]
      rcases List.mem_cons.mp h with h | h
      · exact absurd h.symm hv
      · exact wipe_in h hl
theorem wipe_ext {σ σ' : L2.St} {own : List Nat} (hl : σ'.length = σ.length) (h : ∀ j, j ∉ own → σ'[j]? = (wipe σ own)[j]?) : wipe σ' own = wipe σ own := by
  apply List.ext_getElem?
  intro i
  by_cases hi : i ∈ own
  · by_cases hs : i < σ.length
    · rw [wipe_in hi (by omega), wipe_in hi hs]
    · rw [List.getElem?_eq_none (by rw [wipe_length]; omega), List.getElem?_eq_none (by rw [wipe_length]; omega)]
  · rw [wipe_out hi, h i hi]
theorem backP_len (o s : Sg) : ∀ own, (backP o s own).length = s.length
  | [] => rfl
  | v :: vs => by unfold backP; rw [List.length_set, backP_len o s vs]
theorem backP_out {o s : Sg} {i : Nat} : ∀ {own : List Nat}, i ∉ own → (backP o s own)[i]? = s[i]?
  | [], _ => rfl
  | v :: vs, h => by
    simp only [List.mem_cons, not_or] at h
    unfold backP
    rw [List.getElem?_set_ne (Ne.symm h.1), backP_out h.2]
theorem backP_in {o s : Sg} {i : Nat} (hl : i < s.length) (ho : o.length = s.length) : ∀ {own : List Nat}, i ∈ own → (backP o s own)[i]? = o[i]?
  | [], h => by cases h
  | v :: vs, h => by
    unfold backP
    by_cases hv : v = i
    · subst hv
      rw [List.getElem?_set_self (by rw [backP_len]; exact hl), List.getElem?_eq_getElem (by omega)]
      rfl
    · rw [List.getElem?_set_ne hv]
      rcases List.mem_cons.mp h with h | h
      · exact absurd h.symm hv
      · exact backP_in hl ho h
end
section
variable {C : Ctx} {L : Act} {z z0 z1 z2 : As} {H H0 H1 H2 : Hp} {p p0 p1 p2 : Sg} {σ σ1 : L2.St} {own : List Nat}
theorem SRel.wipe (s : SRel C L z H p σ) (hm : ∀ i ∈ own, i ∉ L.mp.map (·.1)) : SRel C L z H (wipeP p own) (wipe σ own) := by
  have at1 : ∀ (i : Nat) (sl : Slot), (wipeP p own)[i]? = some sl → sl ≠ .un → i ∉ own ∧ p[i]? = some sl := fun i sl e n => by
    by_cases hi : i ∈ own
    · exact absurd (wipeP_in hi e) n
    · rw [wipeP_out hi] at e; exact ⟨hi, e⟩
  refine ⟨by rw [wipeP_len, wipe_length]; exact s.len, s.zt, s.h0, fun i x e => ?_, fun i t x e => ?_, fun i j t u x y a e1 e2 e3 e4 => ?_, (fun q hq => ?_), s.tb, fun i hs e => ?_⟩
  · obtain ⟨hi, e'⟩ := at1 i _ e (by simp)
    rw [wipe_out hi]; exact s.pv i x e'
  · obtain ⟨hi, e'⟩ := at1 i _ e (by simp)
    rw [wipe_out hi]; exact s.ow i t x e'
  · obtain ⟨hi, e1'⟩ := at1 i _ e1 (by simp)
    obtain ⟨hj, e2'⟩ := at1 j _ e2 (by simp)
    rw [wipe_out hi] at e3
    rw [wipe_out hj] at e4
    exact s.dj i j t u x y a e1' e2' e3 e4
  · rw [wipe_out fun h => hm _ h (List.mem_map.mpr ⟨q, hq, rfl⟩)]
    exact s.mp q hq
  · obtain ⟨hi, e'⟩ := at1 i _ e (by simp)
    exact (s.lm i hs e').at (wipe_out hi)
theorem own_wipe {a : Addr} (h : Own (wipeP p own) (wipe σ own) a) : ∃ (i : Nat) (t : Bool) (x : PV), i ∉ own ∧ p[i]? = some (.own t x) ∧ σ[i]? = some (some (.ref a)) := by
  obtain ⟨i, t, x, e1, e2⟩ := h
  by_cases hi : i ∈ own
  · exact absurd (wipeP_in hi e1) (by simp)
  · rw [wipeP_out hi] at e1
    rw [wipe_out hi] at e2
    exact ⟨i, t, x, hi, e1, e2⟩
/-- a turn's end: the slots of the block's own names as they were -/
theorem turn_back (s : SRel C L z0 H0 p0 σ) (g : Go C L z0 H0 p0 σ z H p σ) (k : ∀ a o, H a = some o → H1 a = some o)
    (o1 : ∀ a, Own p1 σ1 a → Own (wipeP p own) (wipe σ own) a) (same : ∀ j, j ∉ own → σ1[j]? = σ[j]?) (hl : σ1.length = σ.length)
    (g2 : Go C L z H1 p1 σ1 z2 H2 p2 σ1) : Go C L z0 H0 p0 σ z2 H2 (backP p p2 own) σ := by
  have ge := g.ext k
  have sp := ge.rel
  have lp2 : p2.length = σ1.length := g2.rel.len
  have lp : p.length = σ.length := g.rel.len
  have at2 : ∀ (j : Nat) (sl : Slot), (backP p p2 own)[j]? = some sl → (j ∈ own ∧ p[j]? = some sl) ∨ (j ∉ own ∧ p2[j]? = some sl) := fun j sl e => by
    by_cases hj : j ∈ own
    · have hjl : j < p2.length := by
        have := (List.getElem?_eq_some_iff.mp e).1
        rw [backP_len] at this; exact this
      rw [backP_in hjl (by omega) hj] at e
      exact .inl ⟨hj, e⟩
    · rw [backP_out hj] at e; exact .inr ⟨hj, e⟩
  -- the block's own slots are not touched
  have apart : ∀ (j : Nat) (t : Bool) (x : PV) (a : Addr), j ∈ own → p[j]? = some (.own t x) → σ[j]? = some (some (.ref a)) → ¬ Own p1 σ1 a := fun j t x a hj e1 e2 q => by
    obtain ⟨i, t', x', hi, e3, e4⟩ := own_wipe (o1 a q)
    exact hi (sp.dj i j _ _ _ _ a e3 e1 e4 e2 ▸ hj)
  have m1 : MOk (Own p1 σ1) z H1 := ⟨fun a q => by
      obtain ⟨i, t, x, _, e3, e4⟩ := own_wipe (o1 a q)
      exact sp.mok.sub a ⟨i, t, x, e3, e4⟩, fun a q => by
      obtain ⟨i, t, x, _, e3, e4⟩ := own_wipe (o1 a q)
      exact sp.mok.wrt a ⟨i, t, x, e3, e4⟩⟩
  have ownUp : ∀ a, Own p1 σ1 a → Own p σ a := fun a q => by
    obtain ⟨i, t, x, _, e3, e4⟩ := own_wipe (o1 a q)
    exact ⟨i, t, x, e3, e4⟩
  have mid : Stp (Own p0 σ) z0 H0 z2 H2 := ge.stp.trans g2.stp (fun a q => ge.own a (ownUp a q)) s.zt
  refine ⟨⟨by rw [backP_len]; omega, g2.rel.zt, fun a e => sp.h0 a (g2.stp.there a e), fun j x e => ?_, fun j t x e => ?_, fun i j t u x y a e1 e2 e3 e4 => ?_, sp.mp, g2.rel.tb, fun j hs e => by
    rcases at2 j _ e with ⟨_, e'⟩ | ⟨hj, e'⟩
    · exact (sp.lm j hs e').step g2.stp m1
    · exact (g2.rel.lm j hs e').at (same j hj).symm⟩, mid, fun a q => ?_⟩
  · rcases at2 j _ e with ⟨_, e'⟩ | ⟨hj, e'⟩
    · obtain ⟨v, h1, h2⟩ := sp.pv j x e'
      exact ⟨v, h1, h2.step g2.stp m1⟩
    · rw [← same j hj]; exact g2.rel.pv j x e'
  · rcases at2 j _ e with ⟨hj, e'⟩ | ⟨hj, e'⟩
    · obtain ⟨a, o, h1, h2, h3, h4, h5, h6⟩ := sp.ow j t x e'
      have na := apart j t x a hj e' h1
      exact ⟨a, o, h1, g2.stp.priv a h2 na, g2.stp.keep a o h3 na h4.nt, h4, h5.step g2.stp m1 fun b eb => by cases eb; exact na, h6⟩
    · rw [← same j hj]; exact g2.rel.ow j t x e'
  · have cross : ∀ (j m : Nat) (t u : Bool) (x y : PV), j ∈ own → m ∉ own → p[j]? = some (.own t x) → p2[m]? = some (.own u y) → σ[j]? = some (some (.ref a)) → σ[m]? = some (some (.ref a)) → False := fun j m t u x y hj hm e1 e2 e3 e4 => by
      have na := apart j t x a hj e1 e3
      rcases g2.own a ⟨m, u, y, e2, by rw [same m hm]; exact e4⟩ with q | q
      · exact na q
      · obtain ⟨a', o, h1, _, h3, _⟩ := sp.ow j t x e1
        rw [e3] at h1; cases h1
        rw [q] at h3; cases h3
    rcases at2 i _ e1 with ⟨hi, e1'⟩ | ⟨hi, e1'⟩
    · rcases at2 j _ e2 with ⟨hj, e2'⟩ | ⟨hj, e2'⟩
      · exact sp.dj i j t u x y a e1' e2' e3 e4
      · exact (cross i j t u x y hi hj e1' e2' e3 e4).elim
    · rcases at2 j _ e2 with ⟨hj, e2'⟩ | ⟨hj, e2'⟩
      · exact (cross j i u t y x hj hi e2' e1' e4 e3).elim
      · exact g2.rel.dj i j t u x y a e1' e2' (by rw [same i hi]; exact e3) (by rw [same j hj]; exact e4)
  · obtain ⟨j, t, x, e1, e2⟩ := q
    rcases at2 j _ e1 with ⟨hj, e'⟩ | ⟨hj, e'⟩
    · exact ge.own a ⟨j, t, x, e', e2⟩
    · rcases g2.own a ⟨j, t, x, e', by rw [same j hj]; exact e2⟩ with q | q
      · exact ge.own a (ownUp a q)
      · exact .inr (ge.stp.there a q)
/-- a list of nobody's is written -/
theorem Go.write {D : Addr} {vs ws : List V} (g : Go C L z0 H0 p0 σ z H p σ) (hz : z D) (hn : H0 D = none) (no : ¬ Own p σ D) (e : H D = some (.lst vs)) : Go C L z0 H0 p0 σ z (upd H D (.lst ws)) p σ := by
  have ne : ∀ a o, H a = some o → a ≠ D → upd H D (.lst ws) a = some o := fun a o h n => by rw [upd_ne n]; exact h
  have m : MOk (fun a => a = D) z H := ⟨fun a q => by subst q; exact hz, fun a q => by subst q; exact ⟨_, e, trivial⟩⟩
  have st : Stp (fun a => a = D) z H z (upd H D (.lst ws)) := ⟨fun a o h n _ => ne a o h n, fun a h => by
      by_cases q : a = D
      · subst q; rw [upd_same] at h; cases h
      · rw [upd_ne q] at h; exact h, fun a h _ => h, fun a h => .inl h⟩
  refine ⟨⟨g.rel.len, fun a h q => g.rel.zt a h (st.there a q), fun a h => g.rel.h0 a (st.there a h), fun i x h => ?_, fun i t x h => ?_, g.rel.dj, g.rel.mp, tabs_upd g.rel.tb e True.intro, fun j hs e => (g.rel.lm j hs e).step st m⟩, ⟨fun a o h n nt => ?_, fun a h => g.stp.there a (st.there a h), g.stp.priv, g.stp.new⟩, g.own⟩
  · obtain ⟨v, h1, h2⟩ := g.rel.pv i x h
    exact ⟨v, h1, h2.step st m⟩
  · obtain ⟨a, o, h1, h2, h3, h4, h5, h6⟩ := g.rel.ow i t x h
    have na : a ≠ D := fun q => no ⟨i, t, x, h, by rw [← q]; exact h1⟩
    exact ⟨a, o, h1, h2, ne a o h3 na, h4, h5.step st m fun b eb => by cases eb; exact na, h6⟩
  · exact ne a o (g.stp.keep a o h n nt) fun q => by subst q; rw [hn] at h; cases h
theorem upd_stp {D : Addr} {vs ws : List V} (hz : z D) (e : H D = some (.lst vs)) : Stp (fun a => a = D) z H z (upd H D (.lst ws)) ∧ MOk (fun a => a = D) z H :=
  ⟨⟨fun a o h n _ => by rw [upd_ne n]; exact h, fun a h => by
      by_cases q : a = D
      · subst q; rw [upd_same] at h; cases h
      · rw [upd_ne q] at h; exact h, fun a h _ => h, fun a h => .inl h⟩, ⟨fun a q => by subst q; exact hz, fun a q => by subst q; exact ⟨_, e, trivial⟩⟩⟩
end
end Mp

/-! MpN: a list comprehension by the interpreter. -/
namespace Mp
open PySem PySem.Spec PyProof.Rows L2

abbrev W0 : WX := fun _ _ _ _ => False
section
variable {C : Ctx} {L : Act} {W : WX} {X : Cx} {N : List Str} {sc : Scope} {k : Nat}
theorem ext_stp {z : As} {H H' : Hp} (e : ∀ a o, H a = some o → H' a = some o) : Stp (fun _ => False) z H z H' ∧ MOk (fun _ => False) z H :=
  ⟨⟨fun a o h _ _ => e a o h, fun a h => (by
      cases q : H a with
      | none => rfl
      | some o => (rw [e a o q] at h; cases h)), fun _ h _ => h, fun _ h => .inl h⟩, ⟨fun _ q => q.elim, fun _ q => q.elim⟩⟩
theorem new_stp {z : As} {H : Hp} {D : Addr} {o : HO} (n : H D = none) : Stp (fun _ => False) z H (fun b => z b ∨ b = D) (upd H D o) ∧ MOk (fun _ => False) z H :=
  ⟨⟨fun a o h _ _ => upd_keep n a o h, fun a h => by
      by_cases q : a = D
      · subst q; exact n
      · rw [upd_ne q] at h; exact h, fun _ h _ => .inl h, fun a h => h.imp id fun q => by subst q; exact n⟩, ⟨fun _ q => q.elim, fun _ q => q.elim⟩⟩
theorem val_less {z' : As} {H H' : Hp} {p' : Sg} {σ : L2.St} {r : RV} {v : V} {x : PV} (h : RRep C z' H H' p' σ r v) (e : valOf r = some x) : ∃ F : Addr → Prop, (∀ a, F a → H a = none ∧ ¬ Own p' σ a) ∧ Rep C (fun a => z' a ∧ ¬ F a) H' x v := by
  cases h with
  | val h => cases e; exact ⟨fun _ => False, fun a q => q.elim, h.less fun a q => q.1⟩
  | @frs y a o q1 q2 q3 q4 q5 q6 =>
    obtain ⟨hm, rfl⟩ := valOf_frs e
    refine ⟨fun b => b = a, fun b q => by subst q; exact ⟨q1, q3⟩, ?_⟩
    exact q6.rep hm (fun a q => q.1) fun b e q => q.2 (by cases e; rfl)
  | bor _ => cases e
theorem lc_read {kd : IK} {fsrc : Sg → Rs (List RV)} {tg : Tg} {own : List Nat} {tst : Sg → Rs Bool} {elt : Sg → Rs RV} (ht : ∀ i ∈ tg.slots, i ∈ own) (hm : ∀ i ∈ own, i ∉ L.mp.map (·.1)) :
    ∀ σ H Q, tOf C L W (fun s => (fsrc s).bind fun rs s1 => match valsOf rs with
      | some l => match itV kd l with
        | some xs => (lcGo own tg tst elt xs 0 [] s1).bind fun ys s2 => .ok (.frs (.lst ys)) s2
        | none => .no
      | none => .no) σ H Q → tLc (iOf C L W kd fsrc) (gOf C L tg) (tOfB C L W0 tst) (tOf C L W0 elt) own σ H Q := by
  rintro σ H Q ⟨z0, p0, s, q⟩
  refine ⟨z0, p0, s, ?_⟩
  dsimp only at q
  cases e1 : fsrc p0 with
  | no => rw [e1] at q; exact q
  | er x p1 => rw [e1] at q; exact q
  | ok rs p1 =>
    rw [e1] at q
    dsimp only [Rs.bind] at q
    unfold OutI
    dsimp only
    cases e2 : valsOf rs with
    | none => rw [e2] at q; exact q
    | some l =>
      rw [e2] at q
      dsimp only at q ⊢
      cases e3 : itV kd l with
      | none => rw [e3] at q; exact q
      | some xs =>
        rw [e3] at q
        dsimp only at q ⊢
        intro J H1 z1 G wk hG g1 D hD
        let fin : List PV → Sg → Rs RV := fun ys s2 => .ok (.frs (.lst ys)) s2
        let Wv : Nat → Nat → Hp → Prop := fun i m Hc => ∃ z p acc vs, Go C L z0 H p0 σ z Hc p σ ∧ z D ∧ ¬ Own p σ D ∧ Hc D = some (.lst vs) ∧ RepL C z Hc acc.reverse vs ∧ G z Hc ∧ m = xs.length - i ∧ i ≤ xs.length ∧
          OutE C L W (RRep C) σ z0 H p0 Q ((lcGo own tg tst elt (xs.drop i) acc.length acc p).bind fin)
        have hHD : H D = none := g1.stp.there D hD
        have start : Wv 0 (xs.length - 0) (upd H1 D (.lst [])) := by
          refine ⟨_, p1, [], [], g1.more s hD, .inr rfl, fun ⟨i, t, x, a1, a2⟩ => ?_, upd_same, .nil, wk.stay _ _ _ _ _ hG (new_stp (o := .lst []) hD).1 (new_stp (o := .lst []) hD).2, rfl, Nat.zero_le _, q⟩
          obtain ⟨b, o, h1, _, h3, _⟩ := g1.rel.ow i t x a1
          rw [a2] at h1; cases h1; rw [hD] at h3; cases h3
        refine ⟨Wv, ⟨_, start⟩, ?_⟩
        rintro i m Hc ⟨z, p, acc, vs, g, hz, no, hDv, rl, hg, rfl, hi, out⟩
        by_cases hlt : i < xs.length
        · have ei : xs[i]? = some xs[i] := List.getElem?_eq_getElem hlt
          rw [List.drop_eq_getElem_cons hlt] at out
          unfold lcGo at out
          refine .inr ⟨wk.go i _ z Hc ei hg, fun H' => ∃ m', m' < xs.length - i ∧ Wv (i + 1) m' H', fun H' h => h, fun x Hy y => ?_⟩
          obtain ⟨kext, rx⟩ := wk.yld i _ z Hc x Hy ei hg y
          have sw := (g.rel.ext kext).wipe (own := own) hm
          refine ⟨z, wipeP p own, xs[i], sw, rx, ?_⟩
          cases e4 : tg.store xs[i] (wipeP p own) with
          | none => rw [e4] at out; exact out
          | some p' =>
            rw [e4] at out
            dsimp only at out ⊢
            intro σ' s' o' k'
            have same : ∀ j, j ∉ own → σ'[j]? = σ[j]? := fun j hj => by
              rw [k' j fun h => hj (ht j h), wipe_out hj]
            have hl : σ'.length = σ.length := by
              rw [← s'.len]
              have := sw.len
              rw [wipe_length] at this
              have l2 : p'.length = (wipeP p own).length := by
                have a := s'.len
                clear out
                exact store_len tg _ _ _ e4
              omega
            have nD : ¬ Own p' σ' D := fun h => by
              obtain ⟨i', t, x', _, a1, a2⟩ := own_wipe (o' D h)
              exact no ⟨i', t, x', a1, a2⟩
            have m1 := s'.mok
            have hyD : Hy D = some (.lst vs) := kext _ _ hDv
            have est := ext_stp (z := z) kext
            have rl1 := rl.step est.1 est.2
            have hg1 := wk.stay _ _ _ _ _ hg est.1 est.2
            refine ⟨wipe_ext hl fun j hj => by rw [same j hj, wipe_out hj], z, p', s', ?_⟩
            cases e5 : tst p' with
            | no => rw [e5] at out; exact out
            | er x2 s2 => rw [e5] at out; exact out.elim
            | ok b s2 =>
              rw [e5] at out
              rintro b' H3 z3 g3 rfl
              cases b with
              | false =>
                dsimp only at out
                refine iteF ⟨xs.length - (i + 1), by omega, z3, backP p s2 own, acc, vs, turn_back s g kext o' same hl g3, g3.stp.priv D hz nD, ?_, g3.stp.keep D _ hyD nD True.intro, rl1.step g3.stp m1, wk.stay _ _ _ _ _ hg1 g3.stp m1, rfl, hlt, out⟩
                rintro ⟨j, t, x', a1, a2⟩
                have tb := turn_back s g kext o' same hl g3
                by_cases hj : j ∈ own
                · rw [backP_in (by have := (List.getElem?_eq_some_iff.mp a1).1; rw [backP_len] at this; exact this) (by have a := g3.rel.len; have b := g.rel.len; omega) hj] at a1
                  exact no ⟨j, t, x', a1, a2⟩
                · rw [backP_out hj] at a1
                  rcases g3.own D ⟨j, t, x', a1, by rw [same j hj]; exact a2⟩ with h | h
                  · exact nD h
                  · rw [hyD] at h; cases h
              | true =>
                dsimp only at out
                refine iteT ⟨z3, s2, g3.rel, ?_⟩
                cases e6 : elt s2 with
                | no => rw [e6] at out; exact out
                | er x2 s3 => rw [e6] at out; exact out.elim
                | ok r s3 =>
                  rw [e6] at out
                  dsimp only at out
                  intro y H4 z4 g4 rr
                  cases e7 : valOf r with
                  | none => rw [e7] at out; exact out.elim
                  | some v =>
                    rw [e7] at out
                    dsimp only at out
                    split at out
                    · rename_i hline
                      have g34 := g3.trans s' g4
                      obtain ⟨F, hF, rv⟩ := val_less (rr.up fun a h => g3.stp.there a h) e7
                      have g5 := g34.less s' F hF
                      have tb := turn_back s g kext o' same hl g5
                      have hzD : z4 D ∧ ¬ F D := ⟨g34.stp.priv D hz nD, fun h => by have := (hF D h).1; rw [hyD] at this; cases this⟩
                      have h4D : H4 D = some (.lst vs) := g34.stp.keep D _ hyD nD True.intro
                      have rl5 := rl1.step g5.stp m1
                      have nb : ¬ Own (backP p s3 own) σ D := by
                        rintro ⟨j, t, x', a1, a2⟩
                        by_cases hj : j ∈ own
                        · rw [backP_in (by have := (List.getElem?_eq_some_iff.mp a1).1; rw [backP_len] at this; exact this) (by have a := g4.rel.len; have b := g.rel.len; omega) hj] at a1
                          exact no ⟨j, t, x', a1, a2⟩
                        · rw [backP_out hj] at a1
                          rcases g34.own D ⟨j, t, x', a1, by rw [same j hj]; exact a2⟩ with h | h
                          · exact nD h
                          · rw [hyD] at h; cases h
                      have lv : acc.length = vs.length := by have := rl.length; simpa using this
                      have ws := upd_stp (z := fun a => z4 a ∧ ¬ F a) (ws := vs ++ [y]) hzD h4D
                      refine ⟨vs, h4D, by rw [← line_eq, ← lv]; exact hline, xs.length - (i + 1), by omega, _, backP p s3 own, v :: acc, vs ++ [y], tb.write hzD hHD nb h4D, hzD, nb, upd_same, ?_, wk.stay _ _ _ _ _ (wk.stay _ _ _ _ _ hg1 g5.stp m1) ws.1 ws.2, rfl, hlt, out⟩
                      rw [List.reverse_cons]
                      exact (rl5.step ws.1 ws.2).append (.cons (rv.step ws.1 ws.2) .nil)
                    · exact out.elim
        · have ei : i = xs.length := by omega
          subst ei
          refine .inl ⟨wk.stop _ z Hc rfl hg, ?_⟩
          rw [List.drop_length] at out
          unfold lcGo at out
          exact out (.ref D) Hc z g (.frs hHD hz no hDv trivial (.lst hDv rl))
end
end Mp

/-! MpS: statements by the interpreter, one rule a form. -/
namespace Mp
open PySem PySem.Spec PyProof.Rows L2

section
variable (C : Ctx) (L : Act) (W : WX)
def OutS (σ : L2.St) (z : As) (H : Hp) (p : Sg) (D : Ends) : Ss → Prop
  | .nx p' => ∀ σ' H' z', Go C L z H p σ z' H' p' σ' → D.nx σ' H'
  | .rt r p' => ∀ v σ' H' z', Go C L z H p σ z' H' p' σ' → RRep C z' L.H0 H' p' σ' r v → D.rt v H'
  | .bk p' => ∀ σ' H' z', Go C L z H p σ z' H' p' σ' → D.bk σ' H'
  | .ct p' => ∀ σ' H' z', Go C L z H p σ z' H' p' σ' → D.ct σ' H'
  | .er x p' => ∀ cls d σ' H' z', Go C L z H p σ z' H' p' σ' → XRep C z' H' x cls d → W cls d σ' H'
  | .no => False
def tOfS (f : Sg → Ss) : TS := fun D σ H => ∃ z p, SRel C L z H p σ ∧ OutS C L W σ z H p D (f p)
end
section
variable {C : Ctx} {L : Act} {W : WX} {X : Cx} {z z' : As} {H H' : Hp} {p p' : Sg} {σ σ' : L2.St} {D : Ends}
theorem OutS.later {r : Ss} (s : SRel C L z H p σ) (g : Go C L z H p σ z' H' p' σ') (h : OutS C L W σ z H p D r) : OutS C L W σ' z' H' p' D r := by
  cases r with
  | nx q => exact fun a b c d => h a b c (g.trans s d)
  | rt r q => exact fun v a b c d e => h v a b c (g.trans s d) e
  | bk q => exact fun a b c d => h a b c (g.trans s d)
  | ct q => exact fun a b c d => h a b c (g.trans s d)
  | er x q => exact fun c d a b e f => h c d a b e (g.trans s f)
  | no => exact h
theorem tOfS.later {f : Sg → Ss} (s : SRel C L z H p σ) (g : Go C L z H p σ z' H' p' σ') (h : OutS C L W σ z H p D (f p')) : tOfS C L W f D σ' H' := ⟨z', p', g.rel, h.later s g⟩
/-- what follows -/
theorem OutS.seq {r : Ss} {nx : L2.St → Hp → Prop} {f : Sg → Ss} (s : SRel C L z H p σ) (h : OutS C L W σ z H p D (match r with
    | .nx s1 => f s1
    | r => r)) (k : ∀ p1 σ1 H1 z1, r = .nx p1 → Go C L z H p σ z1 H1 p1 σ1 → OutS C L W σ z H p D (f p1) → nx σ1 H1) : OutS C L W σ z H p { D with nx := nx } r := by
  cases r with
  | nx q => exact fun σ1 H1 z1 g => k q σ1 H1 z1 rfl g h
  | rt r q => exact h
  | bk q => exact h
  | ct q => exact h
  | er x q => exact h
  | no => exact h
/-- an expression ahead -/
theorem read {fe : Sg → Rs RV} {f : RV → Sg → Ss} {R : V → L2.St → Hp → Ends → Prop} (hf : ∀ z H p σ D z1 H1 p1 r v, SRel C L z H p σ → Go C L z H p σ z1 H1 p1 σ → RRep C z1 H H1 p1 σ r v → OutS C L W σ z H p D (f r p1) → R v σ H1 D) :
    ∀ D σ H, tOfS C L W (fun s => toSs (fe s) f) D σ H → tOf C L W fe σ H fun v H1 => R v σ H1 D := by
  rintro D σ H ⟨z, p, s, q⟩
  refine ⟨z, p, s, ?_⟩
  dsimp only at q
  cases e : fe p with
  | no => rw [e] at q; exact q
  | er x p1 => rw [e] at q; exact fun cls d H1 z1 g xr => q cls d σ H1 z1 g xr
  | ok r p1 => rw [e] at q; exact fun v H1 z1 g rr => hf z H p σ D z1 H1 p1 r v s g rr q
/-- an unshared list becomes a slot's own -/
theorem SRel.setOwn {i : Nat} {x : PV} {a : Addr} {o : HO} (s : SRel C L z H p σ) (hi : i < p.length) (hz : z a) (no : ¬ Own p σ a) (ho : H a = some o) (mo : MutO o) (t : Top C z H x (.ref a)) (h0 : L.H0 a = none) (hm : i ∉ L.mp.map (·.1)) :
    SRel C L z H (p.set i (.own true x)) (σ.set i (some (.ref a))) := by
  have hi' : i < σ.length := by rw [← s.len]; exact hi
  have at1 : ∀ {j : Nat} {sl : Slot}, (p.set i (.own true x))[j]? = some sl → (j = i ∧ sl = .own true x) ∨ (j ≠ i ∧ p[j]? = some sl) := fun {j sl} q => by
    by_cases hj : i = j
    · subst hj; rw [List.getElem?_set_self hi] at q; cases q; exact .inl ⟨rfl, rfl⟩
    · rw [List.getElem?_set_ne hj] at q; exact .inr ⟨Ne.symm hj, q⟩
  refine ⟨by simpa using s.len, s.zt, s.h0, fun j y e => ?_, fun j t' y e => ?_, fun j k t' u y y2 b e1 e2 e3 e4 => ?_, (fun q hq => ?_), s.tb, fun j hs q => (s.lm j hs (lam_set (fun _ => by simp) q).2).at (List.getElem?_set_ne (Ne.symm (lam_set (fun _ => by simp) q).1))⟩
  · rcases at1 e with ⟨_, q⟩ | ⟨hj, q⟩
    · cases q
    · rw [List.getElem?_set_ne (Ne.symm hj)]; exact s.pv j y q
  · rcases at1 e with ⟨rfl, q⟩ | ⟨hj, q⟩
    · cases q; exact ⟨a, o, List.getElem?_set_self hi', hz, ho, mo, t, fun _ => h0⟩
    · rw [List.getElem?_set_ne (Ne.symm hj)]; exact s.ow j t' y q
  · rcases at1 e1 with ⟨rfl, q⟩ | ⟨hj, q⟩
    · rcases at1 e2 with ⟨rfl, q2⟩ | ⟨hk, q2⟩
      · rfl
      · rw [List.getElem?_set_self hi'] at e3; cases e3
        rw [List.getElem?_set_ne (Ne.symm hk)] at e4
        exact absurd ⟨k, u, y2, q2, e4⟩ no
    · rcases at1 e2 with ⟨rfl, q2⟩ | ⟨hk, q2⟩
      · rw [List.getElem?_set_self hi'] at e4; cases e4
        rw [List.getElem?_set_ne (Ne.symm hj)] at e3
        exact absurd ⟨j, t', y, q, e3⟩ no
      · rw [List.getElem?_set_ne (Ne.symm hj)] at e3
        rw [List.getElem?_set_ne (Ne.symm hk)] at e4
        exact s.dj j k t' u y y2 b q q2 e3 e4
  · rw [List.getElem?_set_ne fun e => hm (List.mem_map.mpr ⟨q, hq, e.symm⟩)]
    exact s.mp q hq
theorem own_setOwn {i : Nat} {x : PV} {a b : Addr} {t : Bool} (hi : i < p.length) (hl : p.length = σ.length) (h : Own (p.set i (.own t x)) (σ.set i (some (.ref a))) b) : b = a ∨ Own p σ b := by
  obtain ⟨j, t', y, e1, e2⟩ := h
  by_cases hj : i = j
  · subst hj
    rw [List.getElem?_set_self (by omega)] at e2
    cases e2; exact .inl rfl
  · rw [List.getElem?_set_ne hj] at e1 e2; exact .inr ⟨j, t', y, e1, e2⟩
/-- storing what an expression gave in slot i -/
theorem Go.asg {z0 : As} {H0 : Hp} {p0 : Sg} {σ0 : L2.St} {i : Nat} {r : RV} {v : V} {H00 : Hp} (g : Go C L z0 H0 p0 σ0 z H p σ) (rr : RRep C z H00 H p σ r v) (h00 : ∀ a, H00 a = none → H0 a = none) (s0 : SRel C L z0 H0 p0 σ0) (hm : i ∉ L.mp.map (·.1)) (e : (Tg.nm i).asg r p = some p') :
    Go C L z0 H0 p0 σ0 z H p' (σ.set i (some v)) := by
  cases r with
  | val x =>
    simp only [Tg.asg, Tg.store] at e
    split at e
    · rename_i hi
      cases e
      cases rr with
      | val h => exact ⟨g.rel.set hi h hm, g.stp, fun a o => g.own a (own_set hi o)⟩
    · cases e
  | frs x =>
    simp only [Tg.asg] at e
    split at e
    · rename_i hi
      cases e
      cases rr with
      | frs q1 q2 q3 q4 q5 q6 =>
        have n0 := h00 _ q1
        refine ⟨g.rel.setOwn hi q2 q3 q4 q5 q6 (s0.h0 _ n0) hm, g.stp, fun a o => ?_⟩
        rcases own_setOwn hi g.rel.len o with rfl | o
        · exact .inr n0
        · exact g.own a o
    · cases e
  | bor j => simp [Tg.asg] at e
theorem rd_nm {fe : Sg → Rs RV} {i : Nat} (hm : i ∉ L.mp.map (·.1)) : ∀ D σ H, tOfS C L W (fun s => toSs (fe s) fun r s1 => match (Tg.nm i).asg r s1 with
    | some s2 => .nx s2
    | none => .no) D σ H → tAsg (tOf C L W fe) (gName i) D σ H := by
  refine read (R := fun v σ H1 D => D.nx (σ.set i (some v)) H1) fun z H p σ D z1 H1 p1 r v s g rr q => ?_
  cases e : (Tg.nm i).asg r p1 with
  | none => rw [e] at q; exact q.elim
  | some p2 => rw [e] at q; exact q _ _ _ (g.asg rr (fun _ h => h) s hm e)
theorem s_nm {fe : Sg → Rs RV} {i : Nat} {x : Str} {e : Expr} {pos pos' : Pos} (h : PS X (.Assign [.Name x pos'] e pos) (tAsg (tOf C L W fe) (gName i))) (hm : i ∉ L.mp.map (·.1)) :
    PS X (.Assign [.Name x pos'] e pos) (tOfS C L W fun s => toSs (fe s) fun r s1 => match (Tg.nm i).asg r s1 with
      | some s2 => .nx s2
      | none => .no) := PS.imp h (rd_nm hm)
theorem s_tp {fe : Sg → Rs RV} {ts : List Tg} {tg e : Expr} {pos : Pos} (he : PE X e (tOf C L W fe)) (hg : PG X tg (gOf C L (.tp ts))) (hs : swapsWithSole [tg] e pos.line X.env = pure false) (hw : swappedStores [tg] e X.env = pure none)
    (h1 : (assignEach [tg] X.env).map (·.2) = [assign tg X.env]) :
    PS X (.Assign [tg] e pos) (tOfS C L W fun s => toSs (fe s) fun r s1 => match (Tg.tp ts).asg r s1 with
      | some s2 => .nx s2
      | none => .no) := by
  refine PS.imp (ps_asg he hg hs hw h1) ?_
  refine read (R := fun v σ H1 D => gOf C L (.tp ts) v σ H1 D.nx) fun z H p σ D z1 H1 p1 r v s g rr q => ?_
  cases r with
  | val x =>
    cases rr with
    | val h =>
      refine ⟨z1, p1, x, g.rel, h, ?_⟩
      replace q : OutS C L W σ z H p D (match (Tg.tp ts).store x p1 with
        | some s2 => .nx s2
        | none => .no) := q
      cases e1 : (Tg.tp ts).store x p1 with
      | none => rw [e1] at q; exact q
      | some p2 =>
        rw [e1] at q
        exact fun σ' s' o' _ => q σ' H1 z1 ⟨s', g.stp, fun a o => g.own a (o' a o)⟩
  | frs x => exact q.elim
  | bor j => exact q.elim
theorem setAll_nobor : ∀ {is : List Nat} {rs : List RV} {p q : Sg}, setAll is rs p = some q → ∀ r ∈ rs, isBor r = false
  | [], [], _, _, _, _, h => by cases h
  | [], _ :: _, _, _, e, _, _ => by simp [setAll] at e
  | _ :: _, [], _, _, e, _, _ => by simp [setAll] at e
  | i :: is, r :: rs, p, q, e, r', h => by
    unfold setAll at e
    cases e1 : (Tg.nm i).asg r p with
    | none => rw [e1] at e; cases e
    | some p1 =>
      rw [e1] at e
      rcases List.mem_cons.mp h with rfl | h
      · cases r' with
        | bor j => simp [Tg.asg] at e1
        | _ => rfl
      · exact setAll_nobor e r' h
theorem setAll_go {z0 : As} {H0 : Hp} {p0 : Sg} {σ0 : L2.St} {H00 : Hp} (h00 : ∀ a, H00 a = none → H0 a = none) (s0 : SRel C L z0 H0 p0 σ0) : ∀ {is : List Nat} {rs : List RV} {vs : List V} {p σ : _}, Go C L z0 H0 p0 σ0 z H p σ → RRepL C z H00 H p σ rs vs → (∀ i ∈ is, i ∉ L.mp.map (·.1)) →
    setAll is rs p = some p' → vs.length = is.length ∧ Go C L z0 H0 p0 σ0 z H p' ((is.zip vs).foldl (fun s q => s.set q.1 (some q.2)) σ)
  | [], [], vs, p, σ, g, rr, _, e => by cases rr; cases e; exact ⟨rfl, g⟩
  | [], _ :: _, _, _, _, _, _, _, e => by simp [setAll] at e
  | _ :: _, [], _, _, _, _, _, _, e => by simp [setAll] at e
  | i :: is, r :: rs, vs, p, σ, g, rr, hm, e => by
    unfold setAll at e
    cases e1 : (Tg.nm i).asg r p with
    | none => rw [e1] at e; cases e
    | some p1 =>
      rw [e1] at e
      cases rr with
      | @cons _ v _ vs hr hrs hd =>
        have g1 := g.asg hr h00 s0 (hm i (by simp)) e1
        -- the other values stay where they were
        have hrs' : RRepL C z H00 H p1 (σ.set i (some v)) rs vs := by
          have own1 : ∀ b, Own p1 (σ.set i (some v)) b → (∃ x, r = .frs x ∧ v = .ref b) ∨ Own p σ b := by
            intro b o
            cases r with
            | val x =>
              simp only [Tg.asg, Tg.store] at e1
              split at e1
              · rename_i hi; cases e1; exact .inr (own_set hi o)
              · cases e1
            | frs x =>
              simp only [Tg.asg] at e1
              split at e1
              · rename_i hi
                cases e1
                cases hr with
                | frs _ _ _ _ _ _ =>
                  rcases own_setOwn hi g.rel.len o with rfl | o
                  · exact .inl ⟨x, rfl, rfl⟩
                  · exact .inr o
              · cases e1
            | bor j => simp [Tg.asg] at e1
          have nb := setAll_nobor e
          clear e hm
          induction hrs with
          | nil => exact .nil
          | @cons r2 v2 rs2 vs2 a b c ih =>
            refine .cons ?_ (ih (fun x a' h1 h2 h3 => hd x a' h1 h2 (let ⟨i, y, h4, h5⟩ := h3; ⟨i + 1, y, by simpa using h4, by simpa using h5⟩)) fun r h => nb r (List.mem_cons_of_mem _ h)) c
            cases a with
            | val h => exact .val h
            | frs q1 q2 q3 q4 q5 q6 =>
              refine .frs q1 q2 (fun o => ?_) q4 q5 q6
              rcases own1 _ o with ⟨x, h1, h2⟩ | o
              · exact hd x _ h1 h2 ⟨0, _, rfl, rfl⟩
              · exact q3 o
            | @bor j _ h =>
              have := nb _ (List.mem_cons_self ..)
              cases this
        obtain ⟨l, g2⟩ := setAll_go h00 s0 g1 hrs' (fun j hj => hm j (by simp [hj])) e
        exact ⟨by simp [l], g2⟩
end
end Mp

/-! MpT: more statements. -/
namespace Mp
open PySem PySem.Spec PyProof.Rows L2

section
variable {C : Ctx} {L : Act} {W : WX} {X : Cx} {N : List Str} {sc : Scope} {k : Nat}
/-- arguments ahead -/
theorem readL {fl : Sg → Rs (List RV)} {f : List RV → Sg → Ss} {R : List V → L2.St → Hp → Ends → Prop} (hf : ∀ z H p σ D z1 H1 p1 r v, SRel C L z H p σ → Go C L z H p σ z1 H1 p1 σ → RRepL C z1 H H1 p1 σ r v → OutS C L W σ z H p D (f r p1) → R v σ H1 D) :
    ∀ D σ H, tOfS C L W (fun s => toSs (fl s) f) D σ H → tOfL C L W fl σ H fun v H1 => R v σ H1 D := by
  rintro D σ H ⟨z, p, s, q⟩
  refine ⟨z, p, s, ?_⟩
  dsimp only at q
  cases e : fl p with
  | no => rw [e] at q; exact q
  | er x p1 => rw [e] at q; exact fun cls d H1 z1 g xr => q cls d σ H1 z1 g xr
  | ok r p1 => rw [e] at q; exact fun v H1 z1 g rr => hf z H p σ D z1 H1 p1 r v s g rr q
theorem rd_par {fl : Sg → Rs (List RV)} {i j : Nat} (hm : ∀ m ∈ [i, j], m ∉ L.mp.map (·.1)) : ∀ D σ H, tOfS C L W (fun s => toSs (fl s) fun rs s1 => match setAll [i, j] rs s1 with
    | some s2 => .nx s2
    | none => .no) D σ H → tPar i j (tOfL C L W fl) D σ H := by
  refine readL (R := fun vs σ H1 D => ∃ v w, vs = [v, w] ∧ D.nx ((σ.set i (some v)).set j (some w)) H1) fun z H p σ D z1 H1 p1 rs vs s g rr q => ?_
  cases e : setAll [i, j] rs p1 with
  | none => rw [e] at q; exact q.elim
  | some p2 =>
    rw [e] at q
    obtain ⟨hl, g2⟩ := setAll_go (fun _ h => h) s g rr hm e
    match vs, hl with
    | [v, w], _ => exact ⟨v, w, rfl, q _ _ _ g2⟩
theorem rd_par3 {fl : Sg → Rs (List RV)} {i j l : Nat} (hm : ∀ m ∈ [i, j, l], m ∉ L.mp.map (·.1)) : ∀ D σ H, tOfS C L W (fun s => toSs (fl s) fun rs s1 => match setAll [i, j, l] rs s1 with
    | some s2 => .nx s2
    | none => .no) D σ H → tPar3 i j l (tOfL C L W fl) D σ H := by
  refine readL (R := fun vs σ H1 D => ∃ u v w, vs = [u, v, w] ∧ D.nx (((σ.set i (some u)).set j (some v)).set l (some w)) H1) fun z H p σ D z1 H1 p1 rs vs s g rr q => ?_
  cases e : setAll [i, j, l] rs p1 with
  | none => rw [e] at q; exact q.elim
  | some p2 =>
    rw [e] at q
    obtain ⟨hl, g2⟩ := setAll_go (fun _ h => h) s g rr hm e
    match vs, hl with
    | [u, v, w], _ => exact ⟨u, v, w, rfl, q _ _ _ g2⟩
/-- an own list written -/
theorem Go.mut {z0 : As} {H0 : Hp} {p0 : Sg} {σ0 : L2.St} {z : As} {H : Hp} {p : Sg} {σ : L2.St} {i : Nat} {t : Bool} {x : PV} {ys : List PV} {ws vs : List V} {D : Addr} (g : Go C L z0 H0 p0 σ0 z H p σ) (s0 : SRel C L z0 H0 p0 σ0) (e : p[i]? = some (.own t x)) (es : σ[i]? = some (some (.ref D)))
    (hD : H D = some (.lst vs)) (r : RepL C z H ys ws) : Go C L z0 H0 p0 σ0 z (upd H D (.lst ws)) (p.set i (.own t (.lst ys))) σ := by
  have sp := g.rel
  have hi : i < p.length := (List.getElem?_eq_some_iff.mp e).1
  obtain ⟨D', o, h1, hz, h3, h4, h5, h6⟩ := sp.ow i t x e
  rw [es] at h1; cases h1
  obtain ⟨st, m⟩ := upd_stp (ws := ws) hz hD
  have at1 : ∀ {j : Nat} {sl : Slot}, (p.set i (.own t (.lst ys)))[j]? = some sl → (j = i ∧ sl = .own t (.lst ys)) ∨ (j ≠ i ∧ p[j]? = some sl) := fun {j sl} q => by
    by_cases hj : i = j
    · subst hj; rw [List.getElem?_set_self hi] at q; cases q; exact .inl ⟨rfl, rfl⟩
    · rw [List.getElem?_set_ne hj] at q; exact .inr ⟨Ne.symm hj, q⟩
  have ownUp : ∀ a, Own (p.set i (.own t (.lst ys))) σ a → Own p σ a := by
    rintro a ⟨j, u, y, e1, e2⟩
    rcases at1 e1 with ⟨hj, _⟩ | ⟨_, q⟩
    · exact ⟨i, t, x, e, by rw [← hj]; exact e2⟩
    · exact ⟨j, u, y, q, e2⟩
  refine ⟨⟨by simpa using sp.len, fun a h q => sp.zt a h (st.there a q), fun a h => sp.h0 a (st.there a h), fun j y q => ?_, fun j u y q => ?_, fun j k u w y y2 b e1 e2 e3 e4 => ?_, sp.mp, tabs_upd sp.tb hD True.intro, fun j hs q => (sp.lm j hs (lam_set (fun _ => by simp) q).2).step st m⟩, ⟨fun a o' h n nt => ?_, fun a h => g.stp.there a (st.there a h), g.stp.priv, g.stp.new⟩, fun a o => g.own a (ownUp a o)⟩
  · rcases at1 q with ⟨_, q⟩ | ⟨_, q⟩
    · cases q
    · obtain ⟨v, a1, a2⟩ := sp.pv j y q
      exact ⟨v, a1, a2.step st m⟩
  · rcases at1 q with ⟨hj, q'⟩ | ⟨hj, q⟩
    · cases q'
      exact ⟨D, _, by rw [hj]; exact es, hz, upd_same, trivial, .lst upd_same (r.step st m), h6⟩
    · obtain ⟨b, o', a1, a2, a3, a4, a5, a6⟩ := sp.ow j u y q
      have nb : b ≠ D := fun h => hj (sp.dj j i _ _ _ _ D q e (by rw [a1, h]) es)
      exact ⟨b, o', a1, a2, by rw [upd_ne nb]; exact a3, a4, a5.step st m fun c ec => by cases ec; exact nb, a6⟩
  · have o1 : ∀ {j : Nat} {u : Bool} {y : PV}, (p.set i (.own t (.lst ys)))[j]? = some (.own u y) → ∃ (u' : Bool) (y' : PV), p[j]? = some (.own u' y') := fun {j u y} q => by
      rcases at1 q with ⟨rfl, _⟩ | ⟨_, q⟩
      · exact ⟨_, _, e⟩
      · exact ⟨_, _, q⟩
    obtain ⟨_, _, q1⟩ := o1 e1
    obtain ⟨_, _, q2⟩ := o1 e2
    exact sp.dj j k _ _ _ _ b q1 q2 e3 e4
  · have h' := g.stp.keep a o' h n nt
    have ne : a ≠ D := fun q => by
      subst q
      rcases g.own a ⟨i, t, x, e, es⟩ with q | q
      · exact n q
      · rw [q] at h; cases h
    rw [upd_ne ne]
    exact h'
theorem ownL_of {p : Sg} {i : Nat} {t : Bool} {l : List PV} (e : ownL p i = some (t, l)) : p[i]? = some (.own t (.lst l)) := by
  unfold ownL at e
  split at e
  · rename_i h; cases e; exact h
  · cases e
theorem isOwnL_of {p : Sg} {i : Nat} (e : isOwnL p i = true) : ∃ t l, p[i]? = some (.own t (.lst l)) := by
  unfold isOwnL at e
  split at e
  · rename_i h; exact ⟨_, _, h⟩
  · cases e
theorem own_at {z : As} {H : Hp} {p : Sg} {σ : L2.St} {i : Nat} {t : Bool} {l : List PV} (s : SRel C L z H p σ) (e : p[i]? = some (.own t (.lst l))) : ∃ a vs, σ[i]? = some (some (.ref a)) ∧ H a = some (.lst vs) ∧ RepL C z H l vs := by
  obtain ⟨a, o, h1, h2, h3, h4, h5, h6⟩ := s.ow i _ _ e
  obtain ⟨a', vs, e1, e2, e3⟩ := h5.lsts
  cases e1
  exact ⟨a, vs, h1, e2, e3⟩
theorem rd_app {fe : Sg → Rs RV} {i : Nat} : ∀ D σ H, tOfS C L W (fun s => match isOwnL s i with
    | true => toSs (fe s) fun r s1 => match valOf r, ownL s1 i with
      | some v, some (t, l) => if l.length < line then .nx (s1.set i (.own t (.lst (l ++ [v])))) else .no
      | _, _ => .no
    | false => .no) D σ H → tDrop (tBM C.K "list" rAppend (tVar i) (tCons (tOf C L W fe) tNil)) D σ H := by
  rintro D σ H ⟨z, p, s, q⟩
  dsimp only at q
  cases e0 : isOwnL p i with
  | false => rw [e0] at q; exact q.elim
  | true =>
    rw [e0] at q
    dsimp only at q
    obtain ⟨t0, l0, e0'⟩ := isOwnL_of e0
    obtain ⟨a, vs0, h1, h2, _⟩ := own_at s e0'
    refine ⟨.ref a, h1, .inl ⟨rfl, vs0, .of h2⟩, z, p, s, ?_⟩
    cases e1 : fe p with
    | no => rw [e1] at q; exact q
    | er x p1 => rw [e1] at q; exact fun cls d H1 z1 g xr => q cls d σ H1 z1 g xr
    | ok r p1 =>
      rw [e1] at q
      dsimp only [toSs] at q
      intro y H1 z1 g rr
      cases e2 : valOf r with
      | none => rw [e2] at q; exact q.elim
      | some v =>
        cases e3 : ownL p1 i with
        | none => rw [e2, e3] at q; exact q.elim
        | some tl =>
          obtain ⟨t, l⟩ := tl
          rw [e2, e3] at q
          dsimp only at q
          split at q
          · rename_i hl
            obtain ⟨F, hF, rv⟩ := val_less rr e2
            have g2 := g.less s F hF
            have e3' := ownL_of e3
            obtain ⟨a', vs, a1, a2, a3⟩ := own_at g2.rel e3'
            rw [h1] at a1; cases a1
            exact ⟨a, vs, y, rfl, rfl, a2, by rw [← line_eq, ← a3.length]; exact hl, q _ _ _ (g2.mut s e3' h1 a2 (a3.append (.cons rv .nil)))⟩
          · exact q.elim
theorem rd_set {fe fi : Sg → Rs RV} {i : Nat} : ∀ D σ H, tOfS C L W (fun s => toSs (fe s) fun r s1 => match isOwnL s1 i with
    | true => toSs (fi s1) fun j s2 => match valOf r, j.int?, ownL s2 i with
      | some v, some k, some (t, l) => match ixP l.length k with
        | some m => .nx (s2.set i (.own t (.lst (l.set m v))))
        | none => .no
      | _, _, _ => .no
    | false => .no) D σ H → tAsg (tOf C L W fe) (gSub (tVar i) (tOf C L W fi) rSetL) D σ H := by
  refine read (R := fun v σ H1 D => gSub (tVar i) (tOf C L W fi) rSetL v σ H1 D.nx) fun z H p σ D z1 H1 p1 r v s g rr q => ?_
  cases e0 : isOwnL p1 i with
  | false => rw [e0] at q; exact q.elim
  | true =>
    rw [e0] at q
    dsimp only at q
    obtain ⟨t0, l0, e0'⟩ := isOwnL_of e0
    obtain ⟨a, vs0, h1, h2, _⟩ := own_at g.rel e0'
    refine ⟨.ref a, h1, z1, p1, g.rel, ?_⟩
    cases e1 : fi p1 with
    | no => rw [e1] at q; exact q
    | er x p2 => rw [e1] at q; exact fun cls d H2 z2 g2 xr => q cls d σ H2 z2 (g.trans s g2) xr
    | ok j p2 =>
      rw [e1] at q
      dsimp only [toSs] at q
      intro y H2 z2 g2 ry
      cases e2 : valOf r with
      | none => rw [e2] at q; exact q.elim
      | some x =>
        cases e3 : j.int? with
        | none => rw [e2, e3] at q; exact q.elim
        | some m =>
          cases e4 : ownL p2 i with
          | none => rw [e2, e3, e4] at q; exact q.elim
          | some tl =>
            obtain ⟨t, l⟩ := tl
            rw [e2, e3, e4] at q
            dsimp only at q
            cases e5 : ixP l.length m with
            | none => rw [e5] at q; exact q.elim
            | some n =>
              rw [e5] at q
              obtain rfl := int_of e3
              obtain ⟨F, hF, rv⟩ := val_less (rr.go g.rel g2) e2
              have g3 := (g.trans s g2).less s F hF
              have e4' := ownL_of e4
              obtain ⟨a', vs, a1, a2, a3⟩ := own_at g3.rel e4'
              rw [h1] at a1; cases a1
              cases ry with
              | val h => cases h; exact ⟨a, vs, m, n, rfl, rfl, a2, by rw [← a3.length, ← ixP_eq]; exact e5, q _ _ _ (g3.mut s e4' h1 a2 (a3.set n rv))⟩
theorem rd_aug {fe : Sg → Rs RV} {i : Nat} {op : Operator} {f : Int → Int → Int} (hm : i ∉ L.mp.map (·.1)) (hf : (op = .Add ∧ f = fun a b => a + b) ∨ (op = .Sub ∧ f = fun a b => a - b)) : ∀ D σ H, tOfS C L W (fun s => match s[i]? with
    | some (.pv (.int m)) => toSs (fe s) fun r s1 => match r.int? with
      | some k => match op with
        | .Add => .nx (s1.set i (.pv (.int (m + k))))
        | .Sub => .nx (s1.set i (.pv (.int (m - k))))
        | _ => .no
      | none => .no
    | _ => .no) D σ H → tAug i (tOf C L W fe) (ipI f) D σ H := by
  rintro D σ H ⟨z, p, s, q⟩
  dsimp only at q
  split at q
  · rename_i m e0
    obtain ⟨v, h1, h2⟩ := s.pv i _ e0
    cases h2
    refine ⟨.int m, h1, z, p, s, ?_⟩
    cases e1 : fe p with
    | no => rw [e1] at q; exact q
    | er x p1 => rw [e1] at q; exact fun cls d H1 z1 g xr => q cls d σ H1 z1 g xr
    | ok r p1 =>
      rw [e1] at q
      dsimp only [toSs] at q
      intro y H1 z1 g rr
      cases e2 : r.int? with
      | none => rw [e2] at q; exact q.elim
      | some k =>
        rw [e2] at q
        obtain rfl := int_of e2
        have hi : i < p1.length := by
          have a := g.rel.len
          have b := (List.getElem?_eq_some_iff.mp h1).1
          omega
        have gs : ∀ n : Int, Go C L z H p σ z1 H1 (p1.set i (.pv (.int n))) (σ.set i (some (.int n))) := fun n => ⟨g.rel.set hi (.int n) hm, g.stp, fun a o => g.own a (own_set hi o)⟩
        cases rr with
        | val h =>
          cases h
          refine ⟨m, k, rfl, rfl, ?_⟩
          rcases hf with ⟨rfl, rfl⟩ | ⟨rfl, rfl⟩
          · exact q _ _ _ (gs _)
          · exact q _ _ _ (gs _)
  · exact q.elim
theorem rd_exp {fe : Sg → Rs RV} : ∀ D σ H, tOfS C L W (fun s => toSs (fe s) fun _ s1 => .nx s1) D σ H → tDrop (tOf C L W fe) D σ H :=
  read (R := fun _ σ H1 D => D.nx σ H1) fun _ _ _ _ _ _ _ _ _ _ _ g _ q => q _ _ _ g
theorem rd_ret {fe : Sg → Rs RV} : ∀ D σ H, tOfS C L W (fun s => toSs (fe s) fun r s1 => match retV s1 r with
    | some (r, s2) => .rt r s2
    | none => .no) D σ H → tRet (tOf C L W fe) D σ H := by
  refine read (R := fun v _ H1 D => D.rt v H1) fun z H p σ D z1 H1 p1 r v s g rr q => ?_
  cases e : retV p1 r with
  | none => rw [e] at q; exact q.elim
  | some rs' =>
    rw [e] at q
    cases r with
    | val x => cases e; cases rr with | val h => exact q v σ H1 z1 g (.val h)
    | frs x => cases e; cases rr with | frs q1 q2 q3 q4 q5 q6 => exact q _ σ H1 z1 g (.frs (s.h0 _ q1) q2 q3 q4 q5 q6)
    | bor i =>
      unfold retV at e
      dsimp only at e
      split at e
      · rename_i x e1
        cases e
        cases rr with
        | bor h =>
          obtain ⟨a, o, h1, h2, h3, h4, h5, h6⟩ := g.rel.ow i true x e1
          rw [h] at h1; cases h1
          have hi : i < p1.length := (List.getElem?_eq_some_iff.mp e1).1
          have at1 : ∀ {j : Nat} {sl : Slot}, (p1.set i .un)[j]? = some sl → sl ≠ .un → j ≠ i ∧ p1[j]? = some sl := fun {j sl} w nw => by
            by_cases hj : i = j
            · subst hj; rw [List.getElem?_set_self hi] at w; cases w; exact absurd rfl nw
            · rw [List.getElem?_set_ne hj] at w; exact ⟨Ne.symm hj, w⟩
          have sr := g.rel
          refine q _ σ H1 z1 ⟨⟨by simpa using sr.len, sr.zt, sr.h0, fun j y w => sr.pv j y (at1 w (by simp)).2, fun j t y w => sr.ow j t y (at1 w (by simp)).2, fun j l t u y y2 b e1 e2 => sr.dj j l t u y y2 b (at1 e1 (by simp)).2 (at1 e2 (by simp)).2, sr.mp, sr.tb, fun j hs q => sr.lm j hs (lam_set (fun _ => by simp) q).2⟩, g.stp, fun b ⟨j, t, y, w1, w2⟩ => g.own b ⟨j, t, y, (at1 w1 (by simp)).2, w2⟩⟩ (.frs (h6 rfl) h2 ?_ h3 h4 h5)
          rintro ⟨j, t, y, w1, w2⟩
          obtain ⟨nj, w1'⟩ := at1 w1 (by simp)
          exact nj (sr.dj j i _ _ _ _ a w1' e1 w2 h)
      · cases e
end
end Mp

/-! MpU: blocks, branches, loops. -/
namespace Mp
open PySem PySem.Spec PyProof.Rows L2

section
variable {C : Ctx} {L : Act} {W : WX} {X : Cx} {N : List Str} {sc : Scope} {k : Nat} {pos : Pos}
theorem ss_nil : PSs X [] (tOfS C L W fun s => .nx s) := PSs.imp pss_nil fun D σ H ⟨z, p, s, q⟩ => q σ H z (.refl s)
theorem ss_cons {st : Stmt} {rest : List Stmt} {f g : Sg → Ss} (h1 : PS X st (tOfS C L W f)) (h2 : PSs X rest (tOfS C L W g)) : PSs X (st :: rest) (tOfS C L W fun s => match f s with
    | .nx s1 => g s1
    | r => r) := by
  refine PSs.imp (pss_cons h1 h2) ?_
  rintro D σ H ⟨z, p, s, q⟩
  exact ⟨z, p, s, OutS.seq s q fun p1 σ1 H1 z1 _ gg q' => tOfS.later s gg q'⟩
theorem rd_ite {ft : Sg → Rs Bool} {fa fb : Sg → Ss} : ∀ D σ H, tOfS C L W (fun s => toSs (ft s) fun c s1 => if c then fa s1 else fb s1) D σ H → tIfS (tOfB C L W ft) (tOfS C L W fa) (tOfS C L W fb) D σ H := by
  rintro D σ H ⟨z, p, s, q⟩
  refine ⟨z, p, s, ?_⟩
  dsimp only at q
  cases e : ft p with
  | no => rw [e] at q; exact q
  | er x p1 => rw [e] at q; exact fun cls d H1 z1 g xr => q cls d σ H1 z1 g xr
  | ok b p1 =>
    rw [e] at q
    dsimp only [toSs] at q
    rintro v H1 z1 g rfl
    cases b with
    | true => exact iteT (tOfS.later s g q)
    | false => exact iteF (tOfS.later s g q)
theorem rd_whl {ft : Sg → Rs Bool} {fb : Sg → Ss} {n : Nat} : ∀ D σ H, tOfS C L W (fun s => whGo ft fb n s) D σ H → tWhile (tOfB C L W ft) (tOfS C L W fb) D σ H := by
  rintro D σ H ⟨z0, p0, s, q⟩
  refine ⟨fun m σ1 H1 => ∃ z p, Go C L z0 H p0 σ z H1 p σ1 ∧ OutS C L W σ z0 H p0 D (whGo ft fb m p), ⟨n, z0, p0, .refl s, q⟩, ?_⟩
  rintro m σ1 H1 ⟨z, p, g, q⟩
  cases m with
  | zero => exact q.elim
  | succ m =>
    unfold whGo at q
    refine ⟨z, p, g.rel, ?_⟩
    cases e : ft p with
    | no => rw [e] at q; exact q
    | er x p1 => rw [e] at q; exact fun cls d H2 z2 g2 xr => q cls d σ1 H2 z2 (g.trans s g2) xr
    | ok b p1 =>
      rw [e] at q
      rintro v H2 z2 g2 rfl
      cases b with
      | true =>
        dsimp only at q
        refine iteT ⟨fun σ' H' => ∃ m', m' < m + 1 ∧ ∃ z p, Go C L z0 H p0 σ z H' p σ' ∧ OutS C L W σ z0 H p0 D (whGo ft fb m' p), fun _ _ h => h, z2, p1, g2.rel, ?_⟩
        have gg := g.trans s g2
        cases e2 : fb p1 with
        | nx p2 => rw [e2] at q; exact fun σ3 H3 z3 g3 => ⟨m, Nat.lt_succ_self m, z3, p2, gg.trans s g3, q⟩
        | ct p2 => rw [e2] at q; exact fun σ3 H3 z3 g3 => ⟨m, Nat.lt_succ_self m, z3, p2, gg.trans s g3, q⟩
        | bk p2 => rw [e2] at q; exact fun σ3 H3 z3 g3 => q σ3 H3 z3 (gg.trans s g3)
        | rt r p2 => rw [e2] at q; exact fun v σ3 H3 z3 g3 rr => q v σ3 H3 z3 (gg.trans s g3) rr
        | er x p2 => rw [e2] at q; exact fun cls d σ3 H3 z3 g3 xr => q cls d σ3 H3 z3 (gg.trans s g3) xr
        | no => rw [e2] at q; exact q
      | false => exact iteF (q σ1 H2 z2 (g.trans s g2))
theorem rd_fro {kd : IK} {fsrc : Sg → Rs (List RV)} {tg : Tg} {fb : Sg → Ss} : ∀ D σ H, tOfS C L W (fun s => toSs (fsrc s) fun rs s1 => match valsOf rs with
    | some l => match itV kd l with
      | some xs => frGo tg fb xs s1
      | none => .no
    | none => .no) D σ H → tFor (iOf C L W kd fsrc) (gOf C L tg) (tOfS C L W fb) D σ H := by
  rintro D σ H ⟨z0, p0, s, q⟩
  refine ⟨z0, p0, s, ?_⟩
  dsimp only at q
  cases e1 : fsrc p0 with
  | no => rw [e1] at q; exact q
  | er x p1 => rw [e1] at q; exact fun cls d H1 z1 g1 xr => q cls d σ H1 z1 g1 xr
  | ok rs p1 =>
    rw [e1] at q
    dsimp only [toSs] at q
    unfold OutI
    dsimp only
    cases e2 : valsOf rs with
    | none => rw [e2] at q; exact q
    | some l =>
      rw [e2] at q
      dsimp only at q ⊢
      cases e3 : itV kd l with
      | none => rw [e3] at q; exact q
      | some xs =>
        rw [e3] at q
        dsimp only at q ⊢
        intro J H1 z1 G wk hG g1
        refine ⟨fun i m σ' H' => ∃ z p, Go C L z0 H p0 σ z H' p σ' ∧ G z H' ∧ m = xs.length - i ∧ i ≤ xs.length ∧ OutS C L W σ z0 H p0 D (frGo tg fb (xs.drop i) p), ⟨_, z1, p1, g1, hG, rfl, Nat.zero_le _, q⟩, ?_⟩
        rintro i m σ2 H2 ⟨z, p, g, hg, rfl, hi, q⟩
        by_cases hlt : i < xs.length
        · have ei : xs[i]? = some xs[i] := List.getElem?_eq_getElem hlt
          rw [List.drop_eq_getElem_cons hlt] at q
          unfold frGo at q
          refine .inr ⟨wk.go i _ z H2 ei hg, fun σ' H' => ∃ m', m' < xs.length - i ∧ ∃ z p, Go C L z0 H p0 σ z H' p σ' ∧ G z H' ∧ m' = xs.length - (i + 1) ∧ i + 1 ≤ xs.length ∧ OutS C L W σ z0 H p0 D (frGo tg fb (xs.drop (i + 1)) p), fun _ _ h => h, fun x Hy y => ?_⟩
          obtain ⟨kext, rx⟩ := wk.yld i _ z H2 x Hy ei hg y
          have gy := g.ext kext
          have est := ext_stp (z := z) kext
          have hgy := wk.stay _ _ _ _ _ hg est.1 est.2
          refine ⟨z, p, xs[i], gy.rel, rx, ?_⟩
          cases e4 : tg.store xs[i] p with
          | none => rw [e4] at q; exact q
          | some p2 =>
            rw [e4] at q
            dsimp only at q ⊢
            intro σ3 s3 o3 k3
            have g3 : Go C L z0 H p0 σ z Hy p2 σ3 := ⟨s3, gy.stp, fun a o => gy.own a (o3 a o)⟩
            refine ⟨z, p2, s3, ?_⟩
            have nxt : ∀ p4 σ4 H4 z4, Go C L z Hy p2 σ3 z4 H4 p4 σ4 → OutS C L W σ z0 H p0 D (frGo tg fb (xs.drop (i + 1)) p4) → ∃ m', m' < xs.length - i ∧ ∃ z p, Go C L z0 H p0 σ z H4 p σ4 ∧ G z H4 ∧ m' = xs.length - (i + 1) ∧ i + 1 ≤ xs.length ∧ OutS C L W σ z0 H p0 D (frGo tg fb (xs.drop (i + 1)) p) :=
              fun p4 σ4 H4 z4 g4 q4 => ⟨_, by omega, z4, p4, g3.trans s g4, wk.stay _ _ _ _ _ hgy g4.stp s3.mok, rfl, hlt, q4⟩
            cases e5 : fb p2 with
            | nx p4 => rw [e5] at q; exact fun σ4 H4 z4 g4 => nxt p4 σ4 H4 z4 g4 q
            | ct p4 => rw [e5] at q; exact fun σ4 H4 z4 g4 => nxt p4 σ4 H4 z4 g4 q
            | bk p4 => rw [e5] at q; exact fun σ4 H4 z4 g4 => q σ4 H4 z4 (g3.trans s g4)
            | rt r p4 => rw [e5] at q; exact fun v σ4 H4 z4 g4 rr => q v σ4 H4 z4 (g3.trans s g4) rr
            | er x p4 => rw [e5] at q; exact fun cls d σ4 H4 z4 g4 xr => q cls d σ4 H4 z4 (g3.trans s g4) xr
            | no => rw [e5] at q; exact q
        · have ei : i = xs.length := by omega
          subst ei
          refine .inl ⟨wk.stop _ z H2 rfl hg, ?_⟩
          rw [List.drop_length] at q
          unfold frGo at q
          exact q _ _ _ g
end
end Mp

/-! MpK: comparisons in a row, tests, what is walked by its text. -/
namespace Mp
open PySem PySem.Spec PyProof.Rows L2 RZ

section
variable {C : Ctx} {L : Act} {W : WX} {X : Cx} {fa fb fc : Sg → Rs RV} {a b c : Expr} {pos : Pos} {z : As} {H : Hp} {p : Sg} {σ : L2.St}
/-- the interpreter's comparison -/
def cmpE (op : CmpOp) (fa fb : Sg → Rs RV) : Sg → Rs RV := fun s => (fa s).bind fun x s1 => (fb s1).bind fun y s2 => match deref s2 x, deref s2 y with
  | some u, some v => match cmpV op u v with
    | some c => .ok (.val (.bl c)) s2
    | none => .no
  | _, _ => .no
theorem cmpE_bl {op : CmpOp} {s s' : Sg} {v : RV} (h : cmpE op fa fb s = .ok v s') : ∃ t, v = .val (.bl t) := by
  unfold cmpE at h
  cases e1 : fa s with
  | ok x s1 =>
    rw [e1] at h
    dsimp only [Rs.bind] at h
    cases e2 : fb s1 with
    | ok y s2 =>
      rw [e2] at h
      dsimp only at h
      split at h
      · split at h
        · cases h; exact ⟨_, rfl⟩
        · cases h
      · cases h
    | er => rw [e2] at h; cases h
    | no => rw [e2] at h; cases h
  | er => rw [e1] at h; cases h
  | no => rw [e1] at h; cases h
theorem cmp_read {op : CmpOp} : ∀ σ H Q, tOf C L W (cmpE op fa fb) σ H Q → tOp (rCmp C op) (tOf C L W fa) (tOf C L W fb) σ H Q := by
  refine read2 fun z H p σ Q z2 H2 p2 x y v u s g rx ry k => ?_
  cases e1 : deref p2 x with
  | none => rw [e1] at k; exact k.elim
  | some m =>
    cases e2 : deref p2 y with
    | none => rw [e1, e2] at k; exact k.elim
    | some n =>
      rw [e1, e2] at k
      dsimp only at k
      cases e3 : cmpV op m n with
      | none => rw [e3] at k; exact k.elim
      | some r =>
        rw [e3] at k
        exact ⟨z2, m, n, r, deref_top g.rel rx e1, deref_top g.rel ry e2, e3, k _ _ _ g (.val (.bl _))⟩
theorem t_cmp {op : CmpOp} (hK : X.K = C.K) (hu : X.A.units + 65 < cLine) (gv : ∀ g v, C.gv g = some v → ∃ f, v = .ref f) (hm : behindInMarks op b = false) (ha : PE X a (tOf C L W fa)) (hb : PE X b (tOf C L W fb)) :
    PT X (.Compare a [op] [b] pos) (tOfB C L W fun s => asB (cmpE op fa fb s)) :=
  PT.imp (pt_cmpR (op_cmp hK hu gv) ha hb hm) fun σ H Q h => cmp_read σ H _ (b_read (fun _ _ _ => cmpE_bl) σ H Q h)
/-- two comparisons in a row -/
def chnE (o p : CmpOp) (fa fb fc : Sg → Rs RV) : Sg → Rs RV := fun s => (fa s).bind fun x s1 => (fb s1).bind fun y s2 => match x.val?, y.val? with
  | some u, some v => match cmpV o u v with
    | some true => (fc s2).bind fun z s3 => match z.val? with
      | some w => match cmpV p v w with
        | some d => .ok (.val (.bl d)) s3
        | none => .no
      | none => .no
    | some false => .ok (.val (.bl false)) s2
    | none => .no
  | _, _ => .no
theorem chnE_bl {o q : CmpOp} {s s' : Sg} {v : RV} (h : chnE o q fa fb fc s = .ok v s') : ∃ t, v = .val (.bl t) := by
  unfold chnE at h
  cases e1 : fa s with
  | ok x s1 =>
    rw [e1] at h
    dsimp only [Rs.bind] at h
    cases e2 : fb s1 with
    | ok y s2 =>
      rw [e2] at h
      dsimp only at h
      split at h
      · split at h
        · cases e3 : fc s2 with
          | ok w s3 =>
            rw [e3] at h
            dsimp only at h
            split at h
            · split at h
              · cases h; exact ⟨_, rfl⟩
              · cases h
            · cases h
          | er => rw [e3] at h; cases h
          | no => rw [e3] at h; cases h
        · cases h; exact ⟨_, rfl⟩
        · cases h
      · cases h
    | er => rw [e2] at h; cases h
    | no => rw [e2] at h; cases h
  | er => rw [e1] at h; cases h
  | no => rw [e1] at h; cases h
theorem chn_read {o q : CmpOp} : ∀ σ H Q, tOf C L W (chnE o q fa fb fc) σ H Q → tChain (rCmp C o) (rCmp C q) (tOf C L W fa) (tOf C L W fb) (tOf C L W fc) σ H Q := by
  rintro σ H Q ⟨z, p, s, k⟩
  refine ⟨z, p, s, ?_⟩
  unfold chnE at k
  cases e1 : fa p with
  | no => rw [e1] at k; exact k.elim
  | er x p1 => rw [e1] at k; exact k
  | ok x p1 =>
    rw [e1] at k
    intro v H1 z1 g1 r1
    refine ⟨z1, p1, g1.rel, ?_⟩
    dsimp only [Rs.bind] at k
    cases e2 : fb p1 with
    | no => rw [e2] at k; exact k.elim
    | er y p2 => rw [e2] at k; exact fun cls d H2 z2 g2 q => k cls d H2 z2 (g1.trans s g2) q
    | ok y p2 =>
      rw [e2] at k
      intro u H2 z2 g2 r2
      dsimp only at k
      have gg := g1.trans s g2
      have r1' := r1.go g1.rel g2
      cases e3 : x.val? with
      | none => rw [e3] at k; exact k.elim
      | some m =>
        cases e4 : y.val? with
        | none => rw [e3, e4] at k; exact k.elim
        | some n =>
          rw [e3, e4] at k
          dsimp only at k
          obtain rfl := val_of e3
          obtain rfl := val_of e4
          cases r1' with
          | val h1 =>
            cases r2 with
            | val h2 =>
              cases e5 : cmpV o m n with
              | none => rw [e5] at k; exact k.elim
              | some t =>
                rw [e5] at k
                refine ⟨z2, m, n, t, .of h1, .of h2, e5, t, rfl, ?_⟩
                cases t with
                | false => exact iteF (k _ _ _ gg (.val (.bl _)))
                | true =>
                  dsimp only at k
                  refine iteT ⟨z2, p2, gg.rel, ?_⟩
                  cases e6 : fc p2 with
                  | no => rw [e6] at k; exact k.elim
                  | er y p3 => rw [e6] at k; exact fun cls d H3 z3 g3 q => k cls d H3 z3 (gg.trans s g3) q
                  | ok w p3 =>
                    rw [e6] at k
                    intro u3 H3 z3 g3 r3
                    dsimp only at k
                    cases e7 : w.val? with
                    | none => rw [e7] at k; exact k.elim
                    | some l =>
                      rw [e7] at k
                      dsimp only at k
                      obtain rfl := val_of e7
                      cases e8 : cmpV q n l with
                      | none => rw [e8] at k; exact k.elim
                      | some d =>
                        rw [e8] at k
                        cases r3 with
                        | val h3 => exact ⟨z3, n, l, d, .of (h2.step g3.stp gg.rel.mok), .of h3, e8, k _ _ _ (gg.trans s g3) (.val (.bl _))⟩
theorem e_chn {o q : CmpOp} (hK : X.K = C.K) (hu : X.A.units + 65 < cLine) (gv : ∀ g v, C.gv g = some v → ∃ f, v = .ref f) (hm : lastMarks [o, q] [b, c] = false) (ha : PE X a (tOf C L W fa)) (hb : PE X b (tOf C L W fb)) (hc : PE X c (tOf C L W fc)) :
    PE X (.Compare a [o, q] [b, c] pos) (tOf C L W (chnE o q fa fb fc)) := PE.imp (pe_chain (op_cmp hK hu gv) (op_cmp hK hu gv) ha hb hc hm) chn_read
theorem t_chn {o q : CmpOp} (hK : X.K = C.K) (hu : X.A.units + 65 < cLine) (gv : ∀ g v, C.gv g = some v → ∃ f, v = .ref f) (hm : lastMarks [o, q] [b, c] = false) (ha : PE X a (tOf C L W fa)) (hb : PE X b (tOf C L W fb)) (hc : PE X c (tOf C L W fc)) :
    PT X (.Compare a [o, q] [b, c] pos) (tOfB C L W fun s => asB (chnE o q fa fb fc s)) :=
  PT.imp (pt_chain (op_cmp hK hu gv) (op_cmp hK hu gv) ha hb hc hm) fun σ H Q h => chn_read σ H _ (b_read (fun _ _ _ => chnE_bl) σ H Q h)
theorem PT.pw_bool {op : BoolOp} {es : List Expr} {t : TT} (h : PT X (.BoolOp op es pos) t) : PW X (.BoolOp op es pos) t := ⟨fun wh pins s σ H Q I hw => h.run pins s σ H Q I hw⟩

/-! what is walked -/
theorem valsOf1 {r : RV} {l : List PV} (h : valsOf [r] = some l) : ∃ x, valOf r = some x ∧ l = [x] := by
  unfold valsOf at h
  cases e : valOf r with
  | none => rw [e] at h; cases h
  | some x =>
    rw [e] at h
    have h2 : valsOf ([] : List RV) = some [] := rfl
    rw [h2] at h
    cases h
    exact ⟨x, rfl, rfl⟩
theorem i_val {tg l : Expr} (hK : X.K = C.K) (hl : PE X l (tOf C L W fa)) : PI X tg l (iOf C L W .val fun s => (fa s).bind fun r s1 => (Rs.ok ([] : List RV) s1).bind fun rs s2 => .ok (r :: rs) s2) := by
  refine PI.imp (pi_seq hl) ?_
  rintro σ H R ⟨z, p, s, k⟩
  refine ⟨z, p, s, ?_⟩
  dsimp only [Rs.bind] at k
  cases e1 : fa p with
  | no => rw [e1] at k; exact k.elim
  | er x p1 => rw [e1] at k; exact k
  | ok r p1 =>
    rw [e1] at k
    unfold OutI at k
    dsimp only at k
    intro v H1 z1 g1 r1
    cases e2 : valsOf [r] with
    | none => rw [e2] at k; exact k.elim
    | some l =>
      rw [e2] at k
      dsimp only at k
      obtain ⟨x, e3, rfl⟩ := valsOf1 e2
      obtain ⟨F, hF, rv⟩ := val_less r1 e3
      have g2 := g1.less s F hF
      cases x with
      | tup xs =>
        cases rv with
        | @tup a _ vs sq rp =>
          refine .inl ⟨a, rfl, .inr (.inl ⟨⟨vs, by rw [hK]; exact sq⟩, ?_⟩)⟩
          rw [hK]
          exact k _ H1 _ (GT C a xs vs) walks_tup ⟨sq, rp⟩ g2
      | lst xs =>
        cases rv with
        | @lst a _ vs sq nz rp =>
          refine .inl ⟨a, rfl, .inl ⟨⟨vs, .of sq⟩, ?_⟩⟩
          rw [hK]
          exact k _ H1 _ (GL C a xs vs) walks_lst ⟨sq, nz, rp⟩ g2
      | str t =>
        cases rv
        simp only [itV] at k
        split at k
        · rename_i xs he
          split at he
          · cases he
            exact .inr ⟨t, rfl, k _ H1 _ (fun _ _ => True) walks_str True.intro g2⟩
          · cases he
        · exact k.elim
      | dct ks xs =>
        cases rv with
        | @dct a o _ _ l vs e hk hl rp =>
          simp only [itV, hk, Option.isSome_some, if_true] at k
          exact .inl ⟨a, rfl, .inr (.inr ⟨o, _, e, k _ H1 _ (GD C a o l xs vs) (walks_keys hk hl) ⟨e, rp⟩ g2⟩)⟩
      | _ => exact k.elim
/-- what an expression's own walk reads -/
theorem read1I {fa : Sg → Rs RV} {kd : IK} {S : V → Hp → (It → Hp → Prop) → Prop} (hS : ∀ (R : It → Hp → Prop) z1 H1 x xs v, Rep C z1 H1 x v → itV kd [x] = some xs → (∀ J G, Walks C J xs G → G z1 H1 → R J H1) → S v H1 R) :
    ∀ σ H R, iOf C L W kd (fun s => (fa s).bind fun r s1 => (Rs.ok ([] : List RV) s1).bind fun rs s2 => .ok (r :: rs) s2) σ H R → tOf C L W fa σ H fun v H1 => S v H1 R := by
  rintro σ H R ⟨z, p, s, k⟩
  refine ⟨z, p, s, ?_⟩
  dsimp only [Rs.bind] at k
  cases e1 : fa p with
  | no => rw [e1] at k; exact k.elim
  | er x p1 => rw [e1] at k; exact k
  | ok r p1 =>
    rw [e1] at k
    unfold OutI at k
    dsimp only at k
    intro v H1 z1 g1 r1
    cases e2 : valsOf [r] with
    | none => rw [e2] at k; exact k.elim
    | some l =>
      rw [e2] at k
      dsimp only at k
      obtain ⟨x, e3, rfl⟩ := valsOf1 e2
      obtain ⟨F, hF, rv⟩ := val_less r1 e3
      have g2 := g1.less s F hF
      cases e4 : itV kd [x] with
      | none => rw [e4] at k; exact k.elim
      | some xs =>
        rw [e4] at k
        exact hS R _ H1 x xs v rv e4 fun J G w gz => k J H1 _ G w gz g2
theorem i_itm {e : Expr} {elts : List Expr} {kk : Nat} {tpos apos cpos : Pos} (he : PE X e (tOf C L W fa)) (hb : attributeBase e "items" X.env (eval e X.env) = eval e X.env) (hl : (apos.endLine == cpos.line) = true) :
    PI X (.Tuple elts kk tpos) (.Call (.Attribute e "items" apos) [] [] cpos) (iOf C L W .itm fun s => (fa s).bind fun r s1 => (Rs.ok ([] : List RV) s1).bind fun rs s2 => .ok (r :: rs) s2) := by
  refine PI.imp (pi_items he hb hl) (read1I fun R z1 H1 x xs v r e k => ?_)
  cases x <;> first | (cases e; done) | skip
  cases r with
  | @dct a o _ _ l vs e1 hk hl rp =>
    simp only [itV, hk, Option.isSome_some, if_true] at e
    cases e
    exact ⟨a, o, _, rfl, e1, k _ _ (walks_items hk hl) ⟨e1, rp⟩⟩
theorem i_vls {e tg : Expr} {apos cpos : Pos} (he : PE X e (tOf C L W fa)) (hb : attributeBase e "values" X.env (eval e X.env) = eval e X.env) (hl : (apos.endLine == cpos.line) = true) :
    PI X tg (.Call (.Attribute e "values" apos) [] [] cpos) (iOf C L W .vls fun s => (fa s).bind fun r s1 => (Rs.ok ([] : List RV) s1).bind fun rs s2 => .ok (r :: rs) s2) := by
  refine PI.imp (pi_values he hb hl) (read1I fun R z1 H1 x xs v r e k => ?_)
  cases x <;> first | (cases e; done) | skip
  cases e
  cases r with
  | @dct a o _ _ l vs e hk hl rp => exact ⟨a, o, _, rfl, e, k _ _ (walks_vals hl) ⟨e, rp⟩⟩
/-- a walk by its arguments -/
theorem readI {fl : Sg → Rs (List RV)} {kd : IK} {S : List V → Hp → (It → Hp → Prop) → Prop} (hS : ∀ z H p σ (R : It → Hp → Prop) z1 H1 p1 l xs vs, SRel C L z H p σ → Go C L z H p σ z1 H1 p1 σ → RepL C z1 H1 l vs → itV kd l = some xs →
      (∀ J H' z' G, Walks C J xs G → G z' H' → Go C L z H p σ z' H' p1 σ → R J H') → S vs H1 R) :
    ∀ σ H R, iOf C L W kd fl σ H R → tOfL C L W fl σ H fun vs H1 => S vs H1 R := by
  rintro σ H R ⟨z, p, s, k⟩
  refine ⟨z, p, s, ?_⟩
  cases e1 : fl p with
  | no => rw [e1] at k; exact k
  | er x p1 => rw [e1] at k; exact k
  | ok rs p1 =>
    rw [e1] at k
    unfold OutI at k
    dsimp only at k
    intro vs H1 z1 g1 r1
    cases e2 : valsOf rs with
    | none => rw [e2] at k; exact k.elim
    | some l =>
      rw [e2] at k
      dsimp only at k
      cases e3 : itV kd l with
      | none => rw [e3] at k; exact k.elim
      | some xs =>
        rw [e3] at k
        exact hS z H p σ R _ H1 p1 l xs vs s (g1.less s (FrsIn rs vs) (frsIn_facts r1)) (vals_rep r1 e2 (FrsIn rs vs) fun a q => q) e3 k
theorem i_rng1 {tg a : Expr} {p0 : Pos} {fl : Sg → Rs (List RV)} (hg : Gl X "range") (hm : X.mg "range" = none) (ha : PA X [a] (tOfL C L W fl)) (hs : starEach [a] X.env = [(false, eval a X.env)]) : PI X tg (.Call (.Name "range" p0) [a] [] pos) (iOf C L W .rng fl) := by
  refine PI.imp (pi_range1 hg hm ha hs) (readI fun z H p σ R z1 H1 p1 l xs vs s g rl e k => ?_)
  match l, e with
  | [.int j], e =>
    unfold itV at e
    dsimp only at e
    split at e
    · rename_i hj
      cases e
      cases rl with
      | cons r rl => cases r; cases rl; exact ⟨j, rfl, hj.1, hj.2, k _ H1 z1 _ (walks_rng (lo := 0)) trivial g⟩
    · cases e
theorem i_rng2 {tg a b : Expr} {p0 : Pos} {fl : Sg → Rs (List RV)} (hg : Gl X "range") (hm : X.mg "range" = none) (ha : PA X [a, b] (tOfL C L W fl)) (hs : starEach [a, b] X.env = [(false, eval a X.env), (false, eval b X.env)]) (hs2 : starEach [b] X.env = [(false, eval b X.env)]) :
    PI X tg (.Call (.Name "range" p0) [a, b] [] pos) (iOf C L W .rng2 fl) := by
  refine PI.imp (pi_range2 hg hm ha hs hs2) (readI fun z H p σ R z1 H1 p1 l xs vs s g rl e k => ?_)
  match l, e with
  | [.int i, .int j], e =>
    unfold itV at e
    dsimp only at e
    split at e
    · rename_i hj
      cases e
      cases rl with
      | cons r rl => cases r; cases rl with | cons r rl => cases r; cases rl; exact ⟨i, j, rfl, hj, k _ H1 z1 _ (walks_rng (lo := i)) trivial g⟩
    · cases e
/-- a list or a tuple as an argument -/
theorem seqB {C : Ctx} {z : As} {H : Hp} {x : PV} {v : V} {xs : List PV} (r : Rep C z H x v) (h : x = .lst xs ∨ x = .tup xs) : ∃ (t : Bool) (a : Addr) (vs : List V), v = .ref a ∧ GB t C a xs vs z H := by
  rcases h with rfl | rfl
  · cases r with
    | lst q1 q2 q3 => exact ⟨false, _, _, rfl, q1, q2, q3⟩
  · cases r with
    | tup q1 q3 => exact ⟨true, _, _, rfl, q1, q3⟩
theorem zip_is {l xs : List PV} (e : itV .zip l = some xs) : ∃ x y us ws, l = [x, y] ∧ (x = .lst us ∨ x = .tup us) ∧ (y = .lst ws ∨ y = .tup ws) ∧ xs = List.zipWith (fun x y => PV.tup [x, y]) us ws :=
  match l, e with
  | [.lst us, .lst ws], e => by cases e; exact ⟨_, _, us, ws, rfl, .inl rfl, .inl rfl, rfl⟩
  | [.tup us, .tup ws], e => by cases e; exact ⟨_, _, us, ws, rfl, .inr rfl, .inr rfl, rfl⟩
  | [.lst us, .tup ws], e => by cases e; exact ⟨_, _, us, ws, rfl, .inl rfl, .inr rfl, rfl⟩
  | [.tup us, .lst ws], e => by cases e; exact ⟨_, _, us, ws, rfl, .inr rfl, .inl rfl, rfl⟩
theorem enu_is {l xs : List PV} (e : itV .enu l = some xs) : ∃ x us, l = [x] ∧ (x = .lst us ∨ x = .tup us) ∧ xs = us.zipIdx.map fun p => PV.tup [.int p.2, p.1] :=
  match l, e with
  | [.lst us], e => by cases e; exact ⟨_, us, rfl, .inl rfl, rfl⟩
  | [.tup us], e => by cases e; exact ⟨_, us, rfl, .inr rfl, rfl⟩
theorem i_zip {a b : Expr} {p0 tpos : Pos} {elts : List Expr} {kk : Nat} {fl : Sg → Rs (List RV)} (hK : X.K = C.K) (hg : Gl X "zip") (hm : X.mg "zip" = none) (ha : PA X [a, b] (tOfL C L W fl)) (hs : starEach [a, b] X.env = (false, eval a X.env) :: starEach [b] X.env) (hpl : (backTo pos (starEach [b] X.env)).any (·.1) = false) :
    PI X (.Tuple elts kk tpos) (.Call (.Name "zip" p0) [a, b] [] pos) (iOf C L W .zip fl) := by
  refine PI.imp (pi_zipB hg hm ha hs hpl) (readI fun z H p σ R z1 H1 p1 l xs vs s g rl e k => ?_)
  obtain ⟨x, y, us, ws, rfl, hx, hy, rfl⟩ := zip_is e
  cases rl with
  | cons r rl =>
    cases rl with
    | cons r2 rl =>
      cases rl
      obtain ⟨t, a1, vs1, rfl, g1⟩ := seqB r hx
      obtain ⟨u, a2, vs2, rfl, g2⟩ := seqB r2 hy
      refine ⟨t, u, a1, a2, vs1, vs2, rfl, by rw [hK]; exact g1.sq, by rw [hK]; exact g2.sq, ?_⟩
      rw [hK]
      exact k _ H1 z1 _ walks_zipB ⟨g1, g2⟩ g
theorem i_enu {a : Expr} {p0 tpos : Pos} {elts : List Expr} {kk : Nat} {fl : Sg → Rs (List RV)} (hK : X.K = C.K) (hg : Gl X "enumerate") (hm : X.mg "enumerate" = none) (ha : PA X [a] (tOfL C L W fl)) (hs : starEach [a] X.env = [(false, eval a X.env)]) :
    PI X (.Tuple elts kk tpos) (.Call (.Name "enumerate" p0) [a] [] pos) (iOf C L W .enu fl) := by
  refine PI.imp (pi_enumB hg hm ha hs) (readI fun z H p σ R z1 H1 p1 l xs vs s g rl e k => ?_)
  obtain ⟨x, us, rfl, hx, rfl⟩ := enu_is e
  cases rl with
  | cons r rl =>
    cases rl
    obtain ⟨t, a1, vs1, rfl, g1⟩ := seqB r hx
    refine ⟨t, a1, vs1, rfl, by rw [hK]; exact g1.sq, ?_⟩
    rw [hK]
    exact k _ H1 z1 _ walks_enuB g1 g
end
end Mp

/-! MpP: small facts for the check: stars, stores, constants, reversed lists. -/
namespace Mp
open PySem PySem.Spec PyProof.Rows L2 RZ

def noStar : Expr → Bool
  | .Starred _ _ => false
  | _ => true
theorem star_cons {e : Expr} (h : noStar e = true) (es : List Expr) (env : Env) : starEach (e :: es) env = (false, eval e env) :: starEach es env := by
  cases e <;> first | rfl | (simp [noStar] at h; done)
theorem star_all : ∀ (es : List Expr) (env : Env) (pos : Pos), es.all noStar = true → (backTo pos (starEach es env)).any (·.1) = false
  | [], _, _, _ => rfl
  | e :: es, env, pos, h => by
    simp only [List.all_cons, Bool.and_eq_true] at h
    rw [star_cons h.1]
    show (false || (backTo pos (starEach es env)).any (·.1)) = false
    rw [Bool.false_or]
    exact star_all es env pos h.2
theorem asE_cons {e : Expr} (h : noStar e = true) (es : List Expr) (env : Env) : assignEach (e :: es) env = (false, assign e env) :: assignEach es env := by
  cases e <;> first | rfl | (simp [noStar] at h; done)
theorem asE_len : ∀ (es : List Expr) (env : Env), (assignEach es env).length = es.length
  | [], _ => rfl
  | e :: es, env => by
    have ih := asE_len es env
    cases e <;> (show (assignEach es env).length + 1 = es.length + 1; rw [ih])
theorem asE_none : ∀ (es : List Expr) (env : Env), es.all noStar = true → (assignEach es env).findIdx? (·.1) = none
  | [], _, _ => rfl
  | e :: es, env, h => by
    simp only [List.all_cons, Bool.and_eq_true] at h
    rw [asE_cons h.1, List.findIdx?_cons, asE_none es env h.2]
    rfl
def noComp : Expr → Bool
  | .ListComp .. => false
  | .SetComp .. => false
  | .DictComp .. => false
  | _ => true
theorem swaps_none {e : Expr} (h : noComp e = true) (t : Option Expr) (l : Nat) (env : Env) : swapsWith e t l env = pure false := by
  cases e <;> first | rfl | (simp [noComp] at h; done)
def noSet : Expr → Bool
  | .Set .. => false
  | _ => true
theorem fold_none {e : Expr} (h : noSet e = true) (env : Env) (x : Value) : foldedSetIterable e env x = pure x := by
  cases e <;> first | rfl | (simp [noSet] at h; done)
def noSlice : Expr → Bool
  | .Slice .. => false
  | _ => true
theorem plain_ix {e : Expr} (h : noSlice e = true) : PlainIx e := by
  intro o i
  cases e <;> first | rfl | (simp [noSlice] at h; done)
def noTup : Expr → Bool
  | .Tuple .. => false
  | _ => true
/-- a tuple of targets, stored one by one -/
theorem stores_plain {es : List Expr} {k : Nat} {pos : Pos} {v : Expr} {env : Env} (h : noTup v = true) : swappedStores [.Tuple es k pos] v env = pure none := by
  cases v <;> first | rfl | (simp [noTup] at h; done)
theorem stores_long {es vs : List Expr} {k k2 : Nat} {pos p2 : Pos} {env : Env} (h : (!(es.length == 2 || es.length == 3) || vs.length != es.length) = true) : swappedStores [.Tuple es k pos] (.Tuple vs k2 p2) env = pure none := by
  unfold swappedStores
  simp only [h, Bool.true_or]
  rfl
def parNames (sc : Scope) (ts : List Expr) : Option (List Str) :=
  let line := (ts.head?.map (·.pos.line)).getD 0
  let names := ts.filterMap fun
    | .Name id pos => if sc.names.lookup id == some .local && pos.line == line then some id else none
    | _ => none
  if names.length != ts.length || names.eraseDups.length != names.length then none else some names
theorem stores_other {ts vs : List Expr} {k k2 : Nat} {pos p2 : Pos} {env : Env} (h : (parNames env.scope ts).isNone = true ∨ vs.all (foldedForSure 8) = true) : swappedStores [.Tuple ts k pos] (.Tuple vs k2 p2) env = pure none := by
  unfold swappedStores
  by_cases h1 : (!(ts.length == 2 || ts.length == 3) || vs.length != ts.length || env.blockKind != .function) = true
  · exact if_pos h1
  · refine (if_neg h1).trans ?_
    by_cases h2 : (vs.any fun | .Starred .. => true | _ => false) = true
    · exact if_pos h2
    · refine (if_neg h2).trans ?_
      rcases h with h | h
      · unfold parNames at h
        dsimp only at h
        split at h
        · rename_i hn
          exact if_pos hn
        · cases h
      · refine ite_eq_left_iff.mpr fun _ => ?_
        exact if_pos h
theorem stores_sub {a b v : Expr} {pos : Pos} {env : Env} : swappedStores [.Subscript a b pos] v env = pure none := by
  cases v <;> rfl
theorem stores_par {ts vs : List Expr} {k k2 : Nat} {pos p2 : Pos} {env : Env} {ns : List Str} (h1 : (!(ts.length == 2 || ts.length == 3) || vs.length != ts.length) = false) (hk : env.scope.kind = .function)
    (h2 : vs.all noStar = true) (h3 : parNames env.scope ts = some ns) (h4 : vs.all (foldedForSure 8) = false) (h5 : vs.all (constantsAlone 8) = false) : swappedStores [.Tuple ts k pos] (.Tuple vs k2 p2) env = pure (some ns) := by
  have hb : env.blockKind = .function := by unfold Env.blockKind; rw [hk]; rfl
  have hs : (vs.any fun | .Starred .. => true | _ => false) = false := by
    rw [List.any_eq_false]
    intro e he
    have := List.all_eq_true.mp h2 e he
    cases e <;> first | (simp; done) | (simp [noStar] at this; done)
  unfold parNames at h3
  dsimp only at h3
  split at h3
  · cases h3
  · rename_i hn
    cases h3
    unfold swappedStores
    simp only [h1, hb, h4, h5]
    refine (if_neg (by decide)).trans ((if_neg fun q => absurd (hs.symm.trans q) (by decide)).trans ((if_neg hn).trans ?_))
    rfl
end Mp

/-! MpTr: try with except clauses, each with a name or without. -/
namespace Mp
open PySem PySem.Spec PyProof.Rows L2

/-- how a suite's ends look behind a clause with the name of slot i -/
def outNm (D : Ends) : Option Nat → Ends
  | none => D
  | some i => ⟨fun σ H => D.nx (σ.set i none) H, D.rt, fun σ H => D.bk (σ.set i none) H, fun σ H => D.ct (σ.set i none) H⟩
def inNm (a : Addr) (σ : L2.St) : Option Nat → L2.St
  | none => σ
  | some i => σ.set i (some (.ref a))
structure Cla where
  c : Value
  i : Option Nat
  ts : Addr → Value → Option Addr → TS
/-- what the clauses ask of an exception, one after the other -/
def wCla (K : PySem.W.Frag) (Wo : WX) (D : Ends) : List Cla → WX
  | [] => Wo
  | k :: r => fun cls d σ H => ∃ b, PySem.W.exmOne K cls k.c = some b ∧ (b = true → ∀ a, H a = none → k.ts a cls d (outNm D k.i) (inNm a σ k.i) H) ∧ (b = false → wCla K Wo D r cls d σ H)
/-- the name of a clause -/
def NmOk (X : Cx) : Option Str → Option Nat → Prop
  | none, none => True
  | some n, some i => X.N[i]? = some n ∧ X.env.kindOf n = some .local
  | _, _ => False
inductive ClasOk (X : Cx) : List ExceptHandler → List Cla → Prop
  | nil : ClasOk X [] []
  | cons {x : Str} {k : Cla} {nm : Option Str} {b0 : Stmt} {su : List Stmt} {p1 p2 : Pos} {hs : List ExceptHandler} {l : List Cla} (hc : Names X x k.c) (hn : NmOk X nm k.i)
      (ok : ∀ (a : Addr) (oe : Obj) (cls : Value) (d : Option Addr) (pn : List (Addr × Obj)), Zc cls d oe → (∃ vs, oe.data = .fields vs) → PSs (X.suite a ((a, oe) :: pn)) (b0 :: su) (k.ts a cls d)) (r : ClasOk X hs l) :
      ClasOk X (.ExceptHandler (some (.Name x p1)) nm (b0 :: su) p2 :: hs) (k :: l)
section
variable {X : Cx} {body : List Stmt} {h0 : ExceptHandler} {hs : List ExceptHandler} {l : List Cla} {pos : Pos} {tb : WX → TS} {Wo : WX}
theorem ps_trys (e1 : X.stack = X.env :: X.outer) (e2 : X.env.frame = some X.env.locals) (nd : X.N.Nodup) (tk : Takes X Wo)
    (hb : ∀ (W : WX) (pn : List (Addr × Obj)) (xe : Value → Shared → Prop), Takes (X.tr pn xe) W → PassesOwn (model X.prog X.w) X.A X.env xe → PSs (X.tr pn xe) body (tb W))
    (hh : ClasOk X (h0 :: hs) l) : PS X (.Try body (h0 :: hs) [] [] pos) (fun D σ H => tb (wCla X.K Wo D l) D σ H) := by
  constructor
  intro pins s σ H D I hyp
  have okX := I.ok
  have frX : X.A.frames = some (X.env :: X.outer) := by rw [okX.frames, e1]
  apply wpAny_Try_except
  apply wpAny_mono ((hb (wCla X.K Wo D l) (X.pn ++ pins) (fun ex s₁ => wpAny (model X.prog X.w) X.A (noteFrame ex X.env) (fun _ s₂ => wpAny (model X.prog X.w) X.A (setFlight ex none) (fun _ s₃ => wpAny (model X.prog X.w) X.A (handleBy ex X.env (h0 :: hs)) (SP X pins D) X.xe s₃) X.xe s₂) X.xe s₁) (fun u s' xx => ?_) PassesOwn.looking).run [] s σ H D (I.toTry _) hyp) (fun f s1 hsp => ?_) (fun ex s1 hx => hx)
  · obtain ⟨a, B, sI, pins', σ', H', cls, d, rfl, J', nb, up, sky, na, os, ag, w⟩ := xx
    have J : Inv X pins σ' H' sI := J'.ofTry okX
    rw [show (X.tr (X.pn ++ pins) _).stack = X.stack from rfl, e1] at sky
    show wpAny (model X.prog X.w) X.A (noteFrame (.ref a) X.env) _ _ _
    apply Sky.land Zc.steady frX e2 sky
    intro h3 fl3 up3
    have J3 : Inv X pins σ' H' { s' with heap := h3 } := J.landed nb fl3.1 (up.trans up3) os ag
    obtain ⟨oe3, vs3, he3, hz3, hd3⟩ := fl3.there
    have nfr : a ∉ frs (X.env :: X.outer) := fun hm => by
      obtain ⟨_, o', q, hnf⟩ := fl3.2.2.1.mem hm
      rw [he3] at q; cases q
      exact hnf _ hd3
    have nL : a ≠ X.env.locals := fun z => nfr (List.mem_filterMap.mpr ⟨X.env, List.mem_cons_self, (by rw [e2, z])⟩)
    have nF : a ∉ X.fs := fun hm => by
      obtain ⟨e, he, q⟩ := List.mem_filterMap.mp hm
      exact nfr (List.mem_filterMap.mpr ⟨e, List.mem_cons_of_mem _ he, q⟩)
    have S3 := J3.suite he3 hd3 na nL nF
    have goOn : ∀ {hs2 : List ExceptHandler} {l2 : List Cla}, ClasOk X hs2 l2 → wCla X.K Wo D l2 cls d σ' H' → wpAny (model X.prog X.w) X.A (handleBy (.ref a) X.env hs2) (SP X pins D) X.xe { s' with heap := h3 } := by
      intro hs2 l2 hk
      induction hk with
      | nil =>
        intro w
        apply wpAny_handleBy_nil
        obtain ⟨k1, k2, k3, oe, vs, T, oT, ts', he, hz, hd, h1, hr⟩ := id fl3
        unfold PySem.passOn
        apply wpAny_bind
        apply wpAny_field he hd h1
        rw [if_neg (show ¬ ((Value.ref T == Value.none) = true) by simp)]
        have fin : wpAny (model X.prog X.w) X.A (setFlight (.ref a) X.env.frame) (fun _ s4 => wpAny (model X.prog X.w) X.A (throw (.ref a) : Sem Flow) (SP X pins D) X.xe s4) X.xe { s' with heap := h3 } := by
          rw [e2]
          apply HandSPX.setFlight_upZ fl3
          intro h4 hh4 up4
          apply wpAny_throw
          exact tk _ _ ⟨a, B, sI, pins, σ', H', cls, d, rfl, J, nb, (up.trans up3).trans up4, .inr (.inr (by rw [e1]; exact hh4)), na, os, ag, w⟩
        first
          | exact wpAny_bind (wpAny_pure (wpAny_bind fin))
          | exact wpAny_bind fin
      | @cons x k nm b0 su p1 p2 hs3 l3 hc hn ok r ih =>
        intro w
        obtain ⟨b, hb1, hyes, hno⟩ := w
        refine wpAny_handleBy_cons (codeAny_handlers_test ?_) (by intro q; cases q)
        have LT : PySem.W.Looks (model X.prog X.w) h3 (typeOf (.ref a)) cls := fun A Q E s k q => wpAny_typeOf_ref (k _ _ he3) (by rw [hz3.1]; exact q)
        have LM := PySem.W.exm_one (M := model X.prog X.w) J3.kIn LT hb1
        have test : ∀ {Q : Value → Shared → Prop} {E : Value → Shared → Prop}, Q k.c { s' with heap := h3 } → wpAny (model X.prog X.w) (X.A.mark (some (.ref a))) (eval (.Name x p1) X.env) Q E { s' with heap := h3 } := by
          intro Q E q
          obtain ⟨hg, hdbg, hm | ⟨hm, hv, hnn⟩⟩ := hc
          · exact ld_glob (X := X.suite a ((a, oe3) :: (X.pn ++ pins))) S3 hg hm q hdbg
          · exact ld_blt (X := X.suite a ((a, oe3) :: (X.pn ++ pins))) S3 hg hm hv q hnn hdbg
        apply test
        apply LM.here
        cases b with
        | false =>
          show wpAny _ X.A (handleBy (.ref a) X.env hs3) _ _ _
          exact ih (hno rfl)
        | true =>
          have yes := hyes rfl a na
          obtain ⟨kc, ki, kts⟩ := k
          cases ki with
          | none =>
            cases nm with
            | some _ => exact hn.elim
            | none =>
              apply codeAny_handlers_suite
              apply HandSPX.lands_againZ fl3
              intro h4 fl4 up4
              have J4 : Inv X pins σ' H' { s' with heap := h4 } := J.landed nb fl4.1 ((up.trans up3).trans up4) os ag
              obtain ⟨oe4, vs4, he4, hz4, hd4⟩ := fl4.there
              apply wpAny_mono ((ok a oe4 cls d (X.pn ++ pins) hz4 ⟨_, hd4⟩).run [] _ _ H' _ (J4.suite he4 hd4 na nL nF) yes) (fun f s6 hsp => ?_) (fun _ _ z => False.elim z)
              cases f with
              | next => obtain ⟨σ6, H6, S6, q6⟩ := hsp; exact ⟨_, _, S6.unsuite okX, q6⟩
              | brk => obtain ⟨σ6, H6, S6, q6⟩ := hsp; exact ⟨_, _, S6.unsuite okX, q6⟩
              | cont => obtain ⟨σ6, H6, S6, q6⟩ := hsp; exact ⟨_, _, S6.unsuite okX, q6⟩
              | ret u => obtain ⟨v6, σ6, H6, S6, r6, q6⟩ := hsp; exact ⟨_, _, _, S6.unsuite okX, r6, q6⟩
          | some i =>
            cases nm with
            | none => exact hn.elim
            | some n =>
              obtain ⟨hi, hln⟩ := hn
              apply codeAny_handlers_suite_as
              apply HandSPX.lands_againZ fl3
              intro h4 fl4 up4
              have J4 : Inv X pins σ' H' { s' with heap := h4 } := J.landed nb fl4.1 ((up.trans up3).trans up4) os ag
              obtain ⟨oe4, vs4, he4, hz4, hd4⟩ := fl4.there
              apply store_ok (X := X.suite a ((a, oe4) :: (X.pn ++ pins))) (v := .ref a) (J4.suite he4 hd4 na nL nF) nd hi (.inl hln) rfl (fun s5 S5 => ?_) (.inr hln)
              apply wpAny_mono ((ok a oe4 cls d (X.pn ++ pins) hz4 ⟨_, hd4⟩).run [] s5 _ H' _ S5 yes) (fun f s6 hsp => ?_) (fun _ _ z => False.elim z)
              have last : ∀ {σ6 : L2.St} {H6 : Hp} {Q : Shared → Prop}, Inv (X.suite a ((a, oe4) :: (X.pn ++ pins))) [] σ6 H6 s6 → (∀ s7, Inv X pins (σ6.set i none) H6 s7 → Q s7) → wpAny (model X.prog X.w) X.A (do bindName X.env n .none; unbindBehindTheSuite X.env n p2) (fun _ s7 => Q s7) X.xe s6 :=
                fun {σ6 H6 Q} S6 hq => gone_ok (S6.unsuite okX) nd hi hln hq
              cases f with
              | next => obtain ⟨σ6, H6, S6, q6⟩ := hsp; exact last S6 fun s7 J7 => ⟨_, _, J7, q6⟩
              | brk => obtain ⟨σ6, H6, S6, q6⟩ := hsp; exact last S6 fun s7 J7 => ⟨_, _, J7, q6⟩
              | cont => obtain ⟨σ6, H6, S6, q6⟩ := hsp; exact last S6 fun s7 J7 => ⟨_, _, J7, q6⟩
              | ret u => obtain ⟨v6, σ6, H6, S6, r6, q6⟩ := hsp; exact last S6 fun s7 J7 => ⟨_, _, _, J7, r6, q6⟩
    exact goOn hh w
  · cases f with
    | next => obtain ⟨σ', H', J', q⟩ := hsp; exact wpAny_execs_nil ⟨σ', H', J'.ofTry okX, q⟩
    | brk => obtain ⟨σ', H', J', q⟩ := hsp; exact ⟨σ', H', J'.ofTry okX, q⟩
    | cont => obtain ⟨σ', H', J', q⟩ := hsp; exact ⟨σ', H', J'.ofTry okX, q⟩
    | ret u => obtain ⟨v, σ', H', J', r, q⟩ := hsp; exact ⟨v, σ', H', J'.ofTry okX, r, q⟩
end
end Mp

/-! MpLm: a lambda without parameters, made and called. -/
namespace Mp
open PySem PySem.Spec PyProof.Rows L2
section
variable {X : Cx} {pins : List (Addr × Obj)} {σ : L2.St} {H : Hp} {s : Shared}
/-- the lambda is made; nothing that stood in memory is gone -/
theorem lam_new {T : List (Addr × Str)} {c P : Addr} {params : Arguments} {body : Expr} {scope : Scope} {pos : Pos} {E : Value → Shared → Prop} {Q : Value → Shared → Prop} (I : Inv X pins σ H s) (TB : LamX.TabB X.base X.mg c P) (hcode : X.env.code = .ref c)
    (hm : (P, X.env.qual ++ "<lambda>") ∈ T) (hu : ∀ p ∈ T, p.1 = P → p.2 = X.env.qual ++ "<lambda>") (hT : LamX.Tabs T H) (hdef : defaultsOf params X.env = ([], [])) (hfree : ∀ y ∈ scope.names, y.2 = .free → ∃ c, X.env.cells.lookup y.1 = some c)
    (h : ∀ (f c' : Addr) (pm ctv : Value) (H1 : Hp) (s' : Shared), Inv X pins σ H1 s' → LamX.ExtN H H1 → (∀ a, H1 a = none → H a = none) → LamX.Tabs T H1 →
      s'.heap.get? f = some (PySem.W.kla_obj "<lambda>" (X.env.qual ++ "<lambda>") params body scope (cloFrom X.env.cells scope.names []) pm c' ctv) → H1 f = none → f ∉ frs X.stack → H1 c' = some (LamX.CodeO c' (X.env.qual ++ "<lambda>")) → s.heap.objs.size ≤ f → Q (.ref f) s') :
    wpAny (model X.prog X.w) X.A (eval (.Lambda params body scope pos) X.env) Q E s := by
  obtain ⟨ps, hP, ht, ha⟩ := hT _ hm
  apply PySem.W.kla_eval hdef
  have bP : s.heap.BuiltinsAt X.mg P := TB.bm.keeps I.bk
  have hP' : s.heap.get? P = some { cls := .none, data := .fields ps } := I.hok P _ hP
  have notFrame : ∀ f, s.heap.objs.size ≤ f → f ∉ frs X.stack := by
    intro f hf z
    rcases List.mem_cons.mp (I.stkSub _ z) with e | e
    · have h1 := I.lt
      subst e
      exact absurd (Nat.lt_of_lt_of_le h1 hf) (Nat.lt_irrefl _)
    · exact I.nofs hf e
  cases hc : codeAmong pos ps.toList with
  | some cv =>
    obtain ⟨c', e, hco⟩ := ha pos cv hc
    subst e
    apply PySem.W.kla_makeFunctionHit (mg := X.mg) (c := c) (P := P) (ps := ps) (closure_ok hfree) I.ok.glob (I.mod.glob.keeps I.bk) hcode (TB.code.keeps I.bk) hP' ht hc bP
    intro ctv h' tk hx hsz
    exact h h'.objs.size c' ((X.mg "__name__").getD .none) ctv H _ (I.kept fun b o e => Heap.get?_push_of_some _ (hx b o e)) (LamX.ExtN.refl H) (fun _ z => z) hT (Heap.get?_push_size _ rfl) (I.hok.fresh hsz) (notFrame _ hsz) hco hsz
  | none =>
    apply PySem.W.kla_makeFunction (mg := X.mg) (c := c) (P := P) (ps := ps) (closure_ok hfree) I.ok.glob (I.mod.glob.keeps I.bk) hcode (TB.code.keeps I.bk) hP' ht hc TB.gP bP
    intro c' ctv h' tk hx hge hlt hrec htb
    obtain ⟨c2, oc, vs, t, e2, hoc, hd, hv⟩ := hrec
    cases e2
    have hsz : s.heap.objs.size ≤ h'.objs.size := Nat.le_trans hge (Nat.le_of_lt hlt)
    have nC : H c' = none := I.hok.fresh hge
    have I1 := LamX.inv_table (t' := tk) (more := #[rawInt pos.line, rawInt pos.col, .ref c']) (h' := h'.push (PySem.W.kla_obj "<lambda>" (X.env.qual ++ "<lambda>") params body scope (cloFrom X.env.cells scope.names []) ((X.mg "__name__").getD .none) c' ctv)) I hP
      (fun b o hb e => Heap.get?_push_of_some _ (hx b o hb e)) (Heap.get?_push_of_some _ htb) hge ⟨oc, vs, t, Heap.get?_push_of_some _ hoc, hd, hv⟩
    have eL : (ps ++ #[rawInt pos.line, rawInt pos.col, .ref c']).toList = ps.toList ++ [rawInt pos.line, rawInt pos.col, .ref c'] := by simp
    have ext : LamX.ExtN H (upd (upd H P (.tbl (ps ++ #[rawInt pos.line, rawInt pos.col, .ref c']))) c' (LamX.CodeO c' (X.env.qual ++ "<lambda>"))) := fun b o e n => by
      rw [upd_ne (ne_of_none e nC), upd_ne (fun z => n ps (Option.some.inj (e.symm.trans (by rw [z]; exact hP))))]
      exact e
    refine h h'.objs.size c' ((X.mg "__name__").getD .none) ctv _ _ I1 ext (fun a z => ?_) (fun p hp => ?_) (Heap.get?_push_size _ rfl) ?_ (notFrame _ hsz) upd_same hsz
    · by_cases q : a = c'
      · rw [q]; exact nC
      · rw [upd_ne q] at z
        by_cases q2 : a = P
        · rw [q2, upd_same] at z; cases z
        · rw [upd_ne q2] at z; exact z
    · by_cases hb : p.1 = P
      · rw [hu p hp hb, hb]
        refine ⟨_, by rw [upd_ne (ne_of_none hP nC), upd_same], by rw [eL]; exact PySem.TriplesOk_snoc _ _ _ _ ht, fun p' cv hcv => ?_⟩
        rw [eL] at hcv
        rcases LamX.among_app _ ht hcv with z | z
        · obtain ⟨c0, q1, q2⟩ := ha p' cv z
          exact ⟨c0, q1, ext _ _ q2 LamX.codeO_ne⟩
        · exact ⟨c', z, upd_same⟩
      · obtain ⟨ps', q1, q2, q3⟩ := hT p hp
        refine ⟨ps', by rw [upd_ne (ne_of_none q1 nC), upd_ne hb]; exact q1, q2, fun p' cv hcv => ?_⟩
        obtain ⟨c0, z1, z2⟩ := q3 p' cv hcv
        exact ⟨c0, z1, ext _ _ z2 LamX.codeO_ne⟩
    · have n1 : h'.objs.size ≠ c' := Nat.ne_of_gt hlt
      have n2 : h'.objs.size ≠ P := Nat.ne_of_gt (Nat.lt_of_lt_of_le (Heap.lt_size hP') hsz)
      rw [upd_ne n1, upd_ne n2]
      exact I.hok.fresh hsz
end
section
variable {X : Cx} {pins : List (Addr × Obj)} {σ : L2.St} {H HZ : Hp} {s s1 : Shared}
/-- the lambda's call within the def that got it -/
theorem lam_call {Ng : List Str} {qg : Str} {sg : Scope} {g f c' : Addr} {cdg pm ctv : Value} {params : Arguments} {body : Expr} {scope : Scope} {k i : Nat} {a : Str} {pn : List (Addr × Obj)} {xe : Value → Shared → Prop} {W : WX} {E : XK} {tb : TE} {p1 p2 : Pos}
    (I : Inv X pins σ H s) (Ls : LamX.LamS X.env.scope scope) {cnd : Hp → Prop} (hobj : ∀ (s1 : Shared) (HZ : Hp), HOk X.prog X.w HZ s1.heap → Un (frs X.stack) [] H HZ s.heap s1.heap → cnd HZ → s1.heap.get? f = some (PySem.W.kla_obj "<lambda>" (X.env.qual ++ "<lambda>") params body scope (cloFrom X.env.cells scope.names []) pm c' ctv))
    (hbind : bindArgs (PySem.W.kla_fn "<lambda>" (X.env.qual ++ "<lambda>") params body scope (cloFrom X.env.cells scope.names []) pm (.ref c') ctv) ⟨[], []⟩ = pure [])
    (tk : Takes ((cxOf C8.CX0 X.prog X.w X.K X.mg X.base Ng qg sg g cdg X.A X.stack s H C8.E0).tr pn xe) W) (hW : ∀ cls d σ' H', E cls d H' → W cls d σ' H') (hr : Room (k + 1) (X.A.deeper (envOfC qg sg s.heap.objs.size g cdg))) (hgd : X.A.guards = some [])
    (hbody : ∀ (A : Around) (outer : List Env) (s : Shared) (H : Hp), Room k (A.deeper (LamX.lamEnv X scope s.heap.objs.size f c')) → A.guards = some [] → PE (LamX.lamCx X A outer s H E scope f c') body tb)
    (hN : Ng[i]? = some a) (hv : Vis sg a) (hd : (a == ("__debug__" : Str)) = false) (hcd : (a == ("__classdict__" : Str)) = false) :
    PE ((cxOf C8.CX0 X.prog X.w X.K X.mg X.base Ng qg sg g cdg X.A X.stack s H C8.E0).tr pn xe) (.Call (.Name a p1) [] [] p2) (fun σZ HZ Q => σZ[i]? = some (some (.ref f)) ∧ HZ c' = some (LamX.CodeO c' (X.env.qual ++ "<lambda>")) ∧ cnd HZ ∧ tb σ HZ Q) := by
  constructor
  intro pinsZ sZ σZ HZ Q IZ hyp
  obtain ⟨hs, hc, hcnd, ht⟩ := hyp
  apply wpAny_Call_Name_kw
  apply thn ((pe_var (pos := p1) (i := i) hN hv hd hcd).run pinsZ sZ σZ HZ (fun v H1 => v = .ref f ∧ H1 = HZ) IZ ⟨.ref f, hs, rfl, rfl⟩)
  rintro u s1 ⟨v, H1, I1, r1, rfl, eH⟩
  rw [eH] at I1
  obtain rfl : u = Value.ref f := r1
  have of1 : s1.heap.get? f = some (PySem.W.kla_obj "<lambda>" (X.env.qual ++ "<lambda>") params body scope (cloFrom X.env.cells scope.names []) pm c' ctv) := hobj s1 HZ I1.hok I1.base hcnd
  apply PySem.W.callWith_F0 ⟨_, _, _, _, of1⟩
  have un : Un (frs X.stack) [] H HZ s.heap s1.heap := I1.base
  obtain ⟨⟨oc, vs, t, hoc, hdc, hvc⟩, _, _⟩ := I1.hok c' _ hc
  have rc : codeAny (model X.prog X.w) (X.A.deeper (envOfC qg sg s.heap.objs.size g cdg)) (.call (.ref f) ⟨[], []⟩) (CR (L2.CX X.prog X.w) (envOfC qg sg s.heap.objs.size g cdg :: X.stack) X.prog X.w HZ s1 Q E) s1 := by
    apply PySem.W.kla_callFunE hr.depth of1 rfl Ls.co Ls.gen rfl ⟨c', oc, vs, t, rfl, hoc, hdc, hvc⟩
    rw [hbind]
    refine wpAny_pure (wpAny_newFunctionEnv (fun y hy => (Ls.own y hy).2) (fun y hy => absurd hy (by simp)) (fun h₁ hns hsb => ⟨I1.nolimit.fresh _ hsb, ?_⟩) Ls.kind)
    show codeAny _ _ (.expr body (LamX.lamEnv X scope s1.heap.objs.size f c')) _ _
    have kp : ∀ b o, s1.heap.get? b = some o → h₁.get? b = some o := fun b o e => hsb.extBut b o (Nat.ne_of_lt (Heap.lt_size e)) (Heap.get?_push_of_some _ e)
    have J : Inv (LamX.lamCx X (X.A.deeper (envOfC qg sg s.heap.objs.size g cdg)) (envOfC qg sg s.heap.objs.size g cdg :: X.stack) s1 HZ E scope f c') [] σ HZ { s1 with heap := h₁, toks := s1.toks + ([] : List (Str × Value)).length } :=
      LamX.lam_start2 I Ls I1.env0 hr.hd un hns kp
    have gA : (X.A.deeper (envOfC qg sg s.heap.objs.size g cdg)).guards = some [] := by first | exact hgd | (simp [Around.deeper]; exact hgd)
    apply PySem.W.kla_codeExpr
    apply wpAny_mono ((hbody _ _ s1 HZ (hr.deeper _) gA).run [] _ _ HZ Q J ht) (fun v s' hq => ?_) fun e s' hq => hq
    obtain ⟨w', H', J', rv, q⟩ := hq
    exact ⟨w', H', J'.os, J'.bare, J'.base, J'.hok, rv, q⟩
  have hx : Passes (L2.CX X.prog X.w) ((cxOf C8.CX0 X.prog X.w X.K X.mg X.base Ng qg sg g cdg X.A X.stack s H C8.E0).tr pn xe) E := passes_call tk hW
  apply wpAny_call
  apply codeAny_mono rc
  intro r s' hq
  cases r with
  | error e => exact hx pinsZ σZ HZ s1 e s' I1 hq
  | ok fl =>
    cases fl with
    | ret u => exact I1.after hq
    | next => exact False.elim hq
    | brk => exact False.elim hq
    | cont => exact False.elim hq
end
/-- the def that calls what it gets: TT, what it makes of it -/
def Takes1 (X : Cx) (Ng : List Str) (x : Str) (sg : Scope) (g : Addr) (cdg : Value) (bg : List Stmt) (a : Str) (q : Str) (TT : (XK → Hp → VK → Prop) → Hp → VK → Prop) : Prop :=
  ∀ (f c' : Addr) (s : Shared) (H : Hp) (Q : VK) (tl : XK → Hp → VK → Prop),
    (∀ (W : WX) (pn : List (Addr × Obj)) (xe : Value → Shared → Prop) (E : XK) (p1 p2 : Pos), Takes ((cxOf C8.CX0 X.prog X.w X.K X.mg X.base Ng x sg g cdg X.A X.stack s H C8.E0).tr pn xe) W → (∀ cls d σ' H', E cls d H' → W cls d σ' H') →
      PE ((cxOf C8.CX0 X.prog X.w X.K X.mg X.base Ng x sg g cdg X.A X.stack s H C8.E0).tr pn xe) (.Call (.Name a p1) [] [] p2) (fun σZ HZ Q => σZ[0]? = some (some (.ref f)) ∧ HZ c' = some (LamX.CodeO c' q) ∧ tl E HZ Q)) →
    H c' = some (LamX.CodeO c' q) → TT tl H Q →
    ∃ t, PSs (cxOf C8.CX0 X.prog X.w X.K X.mg X.base Ng x sg g cdg X.A X.stack s H C8.E0).nox bg t ∧ t { nx := fun _ H' => Q .non H', rt := Q } (L2.start Ng [.ref f]) H
def tLm (T : List (Addr × Str)) (TT : (XK → Hp → VK → Prop) → Hp → VK → Prop) (t : XK → TE) : TE := fun σ H Q => LamX.Tabs T H ∧ ∀ H1, LamX.ExtN H H1 → (∀ a, H1 a = none → H a = none) → LamX.Tabs T H1 → TT (fun E H' Q' => t E σ H' Q') H1 Q
section
variable {X : Cx}
/-- x(lambda: body) -/
theorem pe_lam {T : List (Addr × Str)} {TT : (XK → Hp → VK → Prop) → Hp → VK → Prop} {x a : Str} {g c P : Addr} {k : Nat} {pg : Arguments} {bg : List Stmt} {sg : Scope} {dV kV doc pm cdv ct oc : Value} {an od : Option Addr} {osl : Array (Option Value)} {Ng : List Str}
    {params : Arguments} {body : Expr} {scope : Scope} {t : XK → TE} {p lpos pos : Pos} (hg : Gl X x) (hm : X.mg x = some (.ref g)) (hk : PySem.W.keepIn X.K (.ref g) = true)
    (lk : X.K.lookup g = some ⟨oc, od, .func (PySem.W.fnOf x x pg bg sg dV kV doc pm an cdv ct), osl⟩) (hcg : PySem.W.codeIn X.K cdv x = true) (hb : L2.Binds X.K (PySem.W.fnOf x x pg bg sg dV kV doc pm an cdv ct) [a] []) (Sg : FnScope Ng [a] sg) (hNg : Ng[0]? = some a) (hva : Vis sg a)
    (hG : Takes1 X Ng x sg g cdv bg a (X.env.qual ++ "<lambda>") TT)
    (TB : LamX.TabB X.base X.mg c P) (hcode : X.env.code = .ref c) (hmT : (P, X.env.qual ++ "<lambda>") ∈ T) (hu : ∀ p ∈ T, p.1 = P → p.2 = X.env.qual ++ "<lambda>") (hr : Room (k + 2) X.A) (hgd : X.A.guards = some []) (Ls : LamX.LamS X.env.scope scope) (hdef : defaultsOf params X.env = ([], []))
    (hbind : ∀ (q : Str) (cl : List (Str × Addr)) (pm cv ctv : Value), bindArgs (PySem.W.kla_fn "<lambda>" q params body scope cl pm cv ctv) ⟨[], []⟩ = pure [])
    (hbody : ∀ (A : Around) (outer : List Env) (s : Shared) (H : Hp) (E : XK) (f c' : Addr), Room k (A.deeper (LamX.lamEnv X scope s.heap.objs.size f c')) → A.guards = some [] → PE (LamX.lamCx X A outer s H E scope f c') body (t E))
    (hdb : (x == ("__debug__" : Str)) = false) (hd : (a == ("__debug__" : Str)) = false) (hcd : (a == ("__classdict__" : Str)) = false) :
    PE X (.Call (.Name x p) [.Lambda params body scope lpos] [] pos) (tLm T TT t) := by
  constructor
  intro pins s σ H Q I hyp
  obtain ⟨hT, hyp⟩ := hyp
  apply wpAny_Call_Name_kw
  apply ld_glob I hg hm ?_ hdb
  refine PySem.W.callWith_K (h₀ := X.base) I.ok.mod.kin hk ?_ (by rfl) (by rfl)
  show wpAny _ _ (spliced ((false, eval (.Lambda params body scope lpos) X.env) :: backTo pos (starEach [] X.env))) _ _ s
  apply Calls.spliced_cons
  apply lam_new I TB hcode hmT hu hT hdef (Ls.has I.ok)
  intro f c' pm' ctv H1 s' I1 eN nN T1 hf hfn hfr hco _
  refine Calls.spliced_nil ⟨I1.kIn, ?_⟩
  have rc : codeAny (model X.prog X.w) X.A (.call (.ref g) ⟨[.ref f], []⟩) (CR C8.CX0 X.stack X.prog X.w H1 s' Q C8.E0) s' := by
    refine LamX.run_ofS (N := Ng) (ps := [a]) (us := [.ref f]) (vs := [.ref f]) lk hcg Sg hr I1.env0 (hb s' [.ref f] I1.kIn rfl) (.cons rfl .nil) rfl fun hr' => ?_
    obtain ⟨t', ht', hq'⟩ := hG f c' s' H1 Q (fun E H' Q' => t E σ H' Q') (fun W pn xe E p1 p2 tk hW => PE.imp (lam_call (i := 0) (cnd := fun _ => True) I1 Ls (fun s1 HZ _ un _ => un.keep f _ hf hfn hfr (fun z => nomatch (show f ∈ ([] : List Addr) from z))) (hbind _ _ _ _ _) tk hW hr' hgd (fun A outer s H hr2 hg2 => hbody A outer s H E f c' hr2 hg2) hNg hva hd hcd) fun _ _ _ ⟨a, b, c⟩ => ⟨a, b, True.intro, c⟩) hco (hyp H1 eN nN T1)
    exact ⟨t', ht'.nox, hq'⟩
  apply wpAny_call
  apply codeAny_mono rc
  intro r s2 hq
  cases r with
  | error e => exact (show False from hq).elim
  | ok fl =>
    cases fl with
    | ret u => exact I1.after hq
    | next => exact False.elim hq
    | brk => exact False.elim hq
    | cont => exact False.elim hq
end
end Mp

/-! MpC: the check of a text against its core text. -/
namespace Mp
open PySem PySem.Spec PyProof.Rows L2 RZ

structure Tb where
  tb : Nat → Option Fd
  cs : List (Str × PV)
  xs : List (Str × Option (Nat × Str))
  ic : List (Str × List Str × Nat)
/-- where a text stands: its scope, its names, the slots that are lent, whether it is a def's own level -/
structure Pl where
  sc : Scope
  N : List Str
  mp : List Nat
  fc : Bool
  lm : Bool
  cs : List Str

def okName (x : Str) : Bool := !(x == ("__debug__" : Str)) && !(x == ("__classdict__" : Str)) && !(x == ("" : Str))
def visB (sc : Scope) (x : Str) : Bool := match sc.names.lookup x with
  | some .local => true
  | some .cell => true
  | some .free => true
  | _ => false
def glB (sc : Scope) (x : Str) : Bool := match sc.names.lookup x with
  | some .globalImplicit => true
  | _ => false
def locB (sc : Scope) (x : Str) : Bool := match sc.names.lookup x with
  | some .local => true
  | _ => false
def varB (A : Pl) (i : Nat) (x : Str) : Bool := decide (A.N[i]? = some x) && visB A.sc x && okName x
def storeB (A : Pl) (i : Nat) (x : Str) : Bool := decide (A.N[i]? = some x) && !A.mp.contains i && (match A.sc.names.lookup x with
  | some .local => true
  | some .cell => A.fc || A.cs.contains x
  | _ => false)
def tyNames : List String := ["int", "bool", "str", "tuple", "list", "dict"]
def tyB (x : Str) : PV → Bool
  | .ty n => decide (x = Str.ofString n) && tyNames.contains n
  | _ => false
def conB : Const → PV → Bool
  | .none, .non => true
  | .bool b, .bl b' => b == b'
  | .int i, .int j => decide (i = j)
  | .str s, .str t => decide (s = t)
  | _, _ => false
/-- a def's name as a value -/
def fnB (P : Tb) (x : Str) : PV → Bool
  | .fn g => (match P.tb g with
    | some d => decide (d.name = x) && !decide (x = ("" : Str))
    | none => false)
  | _ => false
def cstB (P : Tb) (A : Pl) (v : PV) : Expr → Bool
  | .Constant c _ _ => conB c v
  | .Name x _ => glB A.sc x && okName x && (match P.cs.lookup x with
    | some v' => v'.beq v
    | none => tyB x v || fnB P x v)
  | _ => false
def isTupE : Expr → Bool
  | .Tuple .. => true
  | _ => false
/-- an expression that is no call: its attribute is read as it stands -/
def baseE : Expr → Bool
  | .Name .. => true
  | .Attribute .. => true
  | .Subscript .. => true
  | _ => false
theorem base_rfl {e : Expr} {n : Str} {env : Env} (h : baseE e = true) : attributeBase e n env (eval e env) = eval e env := by
  cases e <;> first | rfl | (cases h; done)
def iterArgs (A : Pl) (k : IK) (tg : Expr) : Expr → Option (List Expr)
  | .Call (.Name x _) [a] [] _ => match k with
    | .rng => if x = ("range" : Str) ∧ glB A.sc x = true then some [a] else none
    | .enu => if x = ("enumerate" : Str) ∧ glB A.sc x = true ∧ isTupE tg = true then some [a] else none
    | _ => none
  | .Call (.Name x _) [a, b] [] _ => match k with
    | .rng2 => if x = ("range" : Str) ∧ glB A.sc x = true then some [a, b] else none
    | .zip => if x = ("zip" : Str) ∧ glB A.sc x = true ∧ isTupE tg = true then some [a, b] else none
    | _ => none
  | .Call (.Attribute e m ap) [] [] cp => match k with
    | .itm => if m = ("items" : Str) ∧ (ap.endLine == cp.line) = true ∧ baseE e = true ∧ isTupE tg = true then some [e] else none
    | .vls => if m = ("values" : Str) ∧ (ap.endLine == cp.line) = true ∧ baseE e = true then some [e] else none
    | _ => none
  | _ => none
def ownNames (A : Pl) (own : List Nat) : List (Str × Nat) := own.map fun i => ((A.N[i]?).getD ("" : Str), i)
def blkPl (A : Pl) (scope : Scope) : Pl := { A with sc := relS scope A.sc, fc := false, lm := false, cs := (scope.names.map (·.1)).filter fun n => scope.names.lookup n == some .cell }
/-- a lambda without parameters -/
def noArgs (a : Arguments) : Bool := a.posonlyargs.isEmpty && a.args.isEmpty && a.vararg.isNone && a.kwonlyargs.isEmpty && a.kwarg.isNone && a.defaults.isEmpty && a.kw_defaults.isEmpty
def lamPl (A : Pl) (scope : Scope) : Pl := ⟨scope, A.N, [], false, false, []⟩
def plainT : Expr → Bool
  | .BoolOp .. => false
  | .UnaryOp .Not _ _ => false
  | .IfExp .. => false
  | .Compare .. => false
  | _ => true
mutual
def chkTg (A : Pl) : Tg → Expr → Bool
  | .nm i, .Name x _ => storeB A i x
  | .tp ts, .Tuple es _ _ => chkTgs A ts es
  | _, _ => false
def chkTgs (A : Pl) : List Tg → List Expr → Bool
  | [], [] => true
  | t :: ts, e :: es => noStar e && chkTg A t e && chkTgs A ts es
  | _, _ => false
end
/-- a part of a formatted text -/
def partB : CE → Bool
  | .cst (.str _) => true
  | .fmt _ _ => true
  | _ => false
/-- the clause h at the text of an except clause -/
def hdB (P : Tb) (N : List Str) (sc : Scope) (h : Hd) : ExceptHandler → Bool
  | .ExceptHandler (some (.Name x _)) nm [.Return (some e) _] _ => decide ((P.xs[h.c]?).map (·.1) = some x) && glB sc x && okName x && (match h.f with
    | none => (match nm, e with
      | none, .Constant (.str s) _ _ => decide (s = h.s)
      | _, _ => false)
    | some f => (match nm, e with
      | some n, .BinOp (.Constant (.str s) _ _) .Add (.Call (.Name y _) [.Attribute (.Name n2 _) f2 _] [] _) _ => decide (N[1]? = some n) && decide (sc.names.lookup n = some .local) && okName n && decide (s = h.s) && decide (y = ("repr" : Str)) && glB sc y && decide (n2 = n) && decide (f2 = f) && (match P.xs[h.c]? with
        | some (_, some (_, f3)) => decide (f3 = f)
        | _ => false)
      | _, _ => false))
  | _ => false
def hdsB (P : Tb) (N : List Str) (sc : Scope) : List Hd → List ExceptHandler → Bool
  | [], hs => hs.isEmpty
  | h :: r, hs => match hs with
    | e :: hs => hdB P N sc h e && hdsB P N sc r hs
    | [] => false
/-- the text of a def that calls what it gets and answers a word -/
def wdB (P : Tb) (d : Fd) (w : Wd) (scope : Scope) : List Stmt → Bool
  | [.Try [.Expr (.Call (.Name a _) [] [] _) _] (h0 :: hs) [] [] _, .Return (some (.Constant (.str s) _ _)) _] => decide (d.np = 1) && decide (d.N[0]? = some a) && visB scope a && okName a && decide (s = w.fin) && hdsB P d.N scope w.hs (h0 :: hs)
  | _ => false
mutual
def chkE (P : Tb) (A : Pl) : CE → Expr → Bool
  | .var i, e => match e with
    | .Name x _ => varB A i x
    | _ => false
  | .bor i, e => match e with
    | .Name x _ => varB A i x
    | _ => false
  | .cst v, e => cstB P A v e
  | .bin op a b, e => match e with
    | .BinOp x op' y _ => decide (op' = op) && chkE P A a x && chkE P A b y
    | _ => false
  | .neg a, e => match e with
    | .UnaryOp .USub x _ => chkE P A a x
    | _ => false
  | .not a, e => match e with
    | .UnaryOp .Not x _ => chkE P A a x
    | _ => false
  | .and a b, e => match e with
    | .BoolOp .And (x :: y :: rest) pos => chkE P A a x && (match rest with
      | [] => chkE P A b y
      | z :: rest => chkE P A b (.BoolOp .And (y :: z :: rest) pos))
    | _ => false
  | .or a b, e => match e with
    | .BoolOp .Or (x :: y :: rest) pos => chkE P A a x && (match rest with
      | [] => chkE P A b y
      | z :: rest => chkE P A b (.BoolOp .Or (y :: z :: rest) pos))
    | _ => false
  | .andT _ _, _ => false
  | .orT _ _, _ => false
  | .notT _, _ => false
  | .tru _, _ => false
  | .cmp op a b, e => match e with
    | .Compare x [op'] [y] _ => decide (op' = op) && !behindInMarks op y && chkE P A a x && chkE P A b y
    | _ => false
  | .chn o p a b c, e => match e with
    | .Compare x [o', p'] [y, z] _ => decide (o' = o) && decide (p' = p) && !lastMarks [o, p] [y, z] && chkE P A a x && chkE P A b y && chkE P A c z
    | _ => false
  | .ife t a b, e => match e with
    | .IfExp x y z _ => chkT P A t x && chkE P A a y && chkE P A b z
    | _ => false
  | .tup es, e => match e with
    | .Tuple xs _ _ => chkEs P A es xs
    | _ => false
  | .lst es, e => match e with
    | .List xs _ => chkEs P A es xs
    | _ => false
  | .sub a b, e => match e with
    | .Subscript x y _ => noSlice y && chkE P A a x && chkE P A b y
    | _ => false
  | .slc a lo hi, e => match e with
    | .Subscript x (.Slice l h none _) _ => chkE P A a x && chkO P A lo l && chkO P A hi h
    | _ => false
  | .cal g es, e => match e with
    | .Call (.Name x _) xs [] _ => (match P.tb g with
      | some d => decide (x = d.name) && okName x && glB A.sc x
      | none => false) && chkEs P A es xs
    | _ => false
  | .bui b es, e => match e with
    | .Call (.Name x _) (y :: ys) [] _ => decide (x = biName b) && glB A.sc x && chkEs P A es (y :: ys)
    | _ => false
  | .rev a, e => match e with
    | .Subscript x (.Slice none none (some (.UnaryOp .USub (.Constant (.int 1) _ _) _)) _) _ => chkE P A a x
    | _ => false
  | .ded, _ => true
  | .spl _ a, e => chkE P A a e
  | .fz a, e => chkE P A a e
  | .lamc g a, e => match e with
    | .Call (.Name x _) [.Lambda params body scope _] [] _ => (match P.tb g with
      | some d => d.wd.isSome && decide (x = d.name) && okName x && glB A.sc x
      | none => false) && A.lm && noArgs params && LamX.lamSB A.sc scope && chkE P (lamPl A scope) a body
    | _ => false
  | .dct kvs, e => match e with
    | .Dict ks vs _ => decide (ks.length ≤ 15) && chkPs P A kvs ks vs
    | _ => false
  | .fst cs, e => match e with
    | .JoinedStr (x :: y :: es) _ => cs.all partB && chkEs P A cs (x :: y :: es)
    | _ => false
  | .fmt r a, e => match e with
    | .FormattedValue x c none _ => decide (c = (if r then 114 else -1)) && chkE P A a x
    | _ => false
  | .lc own tg k src ifs e, e' => match e' with
    | .ListComp elt [⟨etg, iter, eifs, 0⟩] scope _ => noSet iter && blkC A.N A.sc scope (ownNames A own) && (match k with
        | .val => chkEs P A src [iter]
        | k => match iterArgs A k etg iter with
          | some args => chkEs P A src args
          | none => false) && chkTg (blkPl A scope) tg etg && tg.slots.all own.contains && own.all (fun i => !A.mp.contains i)
        && decide (eifs.length ≤ 1) && chkTs P (blkPl A scope) ifs eifs && chkE P (blkPl A scope) e elt
    | _ => false
  | .dcp own tg k src ifs ke ve, e' => match e' with
    | .DictComp kx vx [⟨etg, iter, eifs, 0⟩] scope _ => noSet iter && blkC A.N A.sc scope (ownNames A own) && (match k with
        | .val => chkEs P A src [iter]
        | k => match iterArgs A k etg iter with
          | some args => chkEs P A src args
          | none => false) && chkTg (blkPl A scope) tg etg && tg.slots.all own.contains && own.all (fun i => !A.mp.contains i)
        && decide (eifs.length ≤ 1) && chkTs P (blkPl A scope) ifs eifs && chkE P (blkPl A scope) ke kx && chkE P (blkPl A scope) ve vx
    | _ => false
  | .fld c i a, e => match e with
    | .Attribute x f _ => (match P.ic[c]? with
      | some q => decide (q.2.1[i]? = some f)
      | none => false) && baseE x && chkE P A a x
    | _ => false
  | .isC c a, e => match e with
    | .Call (.Name x _) [y, .Name z _] [] _ => decide (x = ("isinstance" : Str)) && glB A.sc x && (match P.ic[c]? with
      | some q => decide (q.1 = z)
      | none => false) && glB A.sc z && okName z && noStar y && chkE P A a y
    | _ => false
  | .mk c g es, e => match e with
    | .Call (.Name x _) (y :: ys) [] _ => (match P.ic[c]? with
      | some q => A.fc && decide (q.1 = x) && decide (q.2.2 = g)
      | none => false) && okName x && glB A.sc x && chkEs P A es (y :: ys)
    | _ => false
  | .srk g a, e => match e with
    | .Call (.Name x _) [y] [⟨some kn, .Name z _, _⟩] _ => decide (x = ("sorted" : Str)) && glB A.sc x && decide (kn = ("key" : Str)) && (match P.tb g with
      | some d => A.fc && decide (z = d.name) && okName z && glB A.sc z && decide (d.np = 1) && d.dfl.isEmpty
      | none => false) && noStar y && chkE P A a y
    | _ => false
  | .lsx es a, e => match e with
    | .List xs _ => chkLx P A (chkE P A a) es xs
    | _ => false
  | .ind a b, e => match e with
    | .Call (.Attribute x m ap) [y] [] cp => decide (m = ("index" : Str)) && (ap.endLine == cp.line) && baseE x && noStar y && chkE P A a x && chkE P A b y
    | _ => false
  | .cav i es, e => match e with
    | .Call (.Name x _) (y :: ys) [] _ => varB A i x && chkEs P A es (y :: ys)
    | _ => false
  | .lcw g i j _, e => match e with
    | .ListComp (.Call (.Name w _) [.Name y _] [] _) [⟨.Name y2 _, .Name src _, [], 0⟩] scope _ => (match P.tb g with
      | some d => d.wd.isSome && decide (w = d.name) && okName w && glB (blkPl A scope).sc w
      | none => false) && A.lm && blkC A.N A.sc scope (ownNames A [j]) && varB A i src && storeB (blkPl A scope) j y2 && varB (blkPl A scope) j y && !A.mp.contains j
    | _ => false
def chkLx (P : Tb) (A : Pl) (f : Expr → Bool) : List CE → List Expr → Bool
  | [], es => match es with
    | [.Starred y _] => f y
    | _ => false
  | c :: cs, es => match es with
    | e :: es => noStar e && chkE P A c e && chkLx P A f cs es
    | [] => false
def chkEs (P : Tb) (A : Pl) : List CE → List Expr → Bool
  | [], es => match es with
    | [] => true
    | _ => false
  | c :: cs, es => match es with
    | e :: es => noStar e && chkE P A c e && chkEs P A cs es
    | [] => false
def chkPs (P : Tb) (A : Pl) : List CE → List (Option Expr) → List Expr → Bool
  | [], ks, vs => ks.isEmpty && vs.isEmpty
  | [_], _, _ => false
  | a :: b :: cs, ks, vs => match ks, vs with
    | some k :: ks, v :: vs => chkE P A a k && chkE P A b v && chkPs P A cs ks vs
    | _, _ => false
def chkO (P : Tb) (A : Pl) : Option CE → Option Expr → Bool
  | none, o => match o with
    | none => true
    | _ => false
  | some c, o => match o with
    | some e => chkE P A c e
    | _ => false
def chkTs (P : Tb) (A : Pl) : List CE → List Expr → Bool
  | [], es => match es with
    | [] => true
    | _ => false
  | c :: cs, es => match es with
    | e :: es => chkT P A c e && chkTs P A cs es
    | [] => false
def chkT (P : Tb) (A : Pl) : CE → Expr → Bool
  | .andT a b, e => match e with
    | .BoolOp .And (x :: y :: rest) pos => chkT P A a x && (match rest with
      | [] => chkT P A b y
      | z :: rest => chkT P A b (.BoolOp .And (y :: z :: rest) pos))
    | _ => false
  | .orT a b, e => match e with
    | .BoolOp .Or (x :: y :: rest) pos => chkT P A a x && (match rest with
      | [] => chkT P A b y
      | z :: rest => chkT P A b (.BoolOp .Or (y :: z :: rest) pos))
    | _ => false
  | .notT a, e => match e with
    | .UnaryOp .Not x _ => chkT P A a x
    | _ => false
  | .cmp op a b, e => match e with
    | .Compare x [op'] [y] _ => decide (op' = op) && !behindInMarks op y && chkE P A a x && chkE P A b y
    | _ => false
  | .chn o p a b c, e => match e with
    | .Compare x [o', p'] [y, z] _ => decide (o' = o) && decide (p' = p) && !lastMarks [o, p] [y, z] && chkE P A a x && chkE P A b y && chkE P A c z
    | _ => false
  | .ded, _ => true
  | .spl _ a, e => chkT P A a e
  | .tru a, e => plainT e && chkE P A a e
  | _, _ => false
end
/-- a lambda of a list: its number, its text -/
def lamChk (P : Tb) (sc : Scope) (N : List Str) (h : Nat) (params : Arguments) (body : Expr) (scope : Scope) : Bool := noArgs params && LamX.lamSB sc scope && (match P.tb h with
  | some ⟨nm, M, np, [], [], [.ret e], none, false⟩ => decide (nm = ("" : Str)) && decide (M = N) && decide (np = N.length) && chkE P ⟨scope, N, [], false, false, []⟩ e body
  | _ => false)
def lamsB (P : Tb) (A : Pl) : List Nat → List Expr → Bool
  | [], es => match es with
    | [] => true
    | _ => false
  | h :: hs, es => match es with
    | .Lambda params body scope _ :: es => lamChk P A.sc A.N h params body scope && lamsB P A hs es
    | _ => false
end Mp

/-! MpFs: formatted texts. -/
namespace Mp
open PySem PySem.Spec PyProof.Rows L2
section
variable {C : Ctx} {L : Act} {W : WX} {X : Cx} {fe : Sg → Rs RV} {e : Expr} {pos : Pos}
/-- repr within a formatted text -/
theorem fmt_repr {pins : List (Addr × Obj)} {σ : L2.St} {H : Hp} {s : Shared} {z : As} {x : PV} {v : V} {u : Value} {t : Str} {Q : VK} (hK : X.K = C.K) (hP : X.prog = C.P) (hw : X.w = C.w) (hg : X.A.guards = some []) (hu : X.A.units + 65 < cLine) (I : Inv X pins σ H s) (tx : Top C z H x v) (r : RelV v u)
    (hr : biV .repr [x] = some (.val (.str t))) (q : Q (.str t) H) : wpAny (model X.prog X.w) X.A (pyReprObj u) (fun w s' => wpAny (model X.prog X.w) X.A (formatField w Str.empty) (EP X pins σ Q) X.xe s') X.xe s := by
  simp only [biV] at hr
  split at hr
  case isFalse => cases hr
  rename_i hc
  simp only [Bool.and_eq_true, decide_eq_true_eq] at hc
  cases hr
  obtain ⟨⟨h1, h2⟩, h3⟩ := hc
  have fin : ∀ (h' : Heap) (w : Tok) (tk : Nat), (∀ b o, s.heap.get? b = some o → h'.get? b = some o) → wpAny (model X.prog X.w) X.A (formatField (.str x.toD.shown w) Str.empty) (EP X pins σ Q) X.xe { s with heap := h', toks := tk } := fun h' w tk hk =>
    wpAny_formatField_str ⟨.str _, H, I.kept (t' := tk) hk, ⟨_, rfl⟩, q⟩ ⟨.str _, H, (I.kept (t' := tk) hk).tok _, ⟨_, rfl⟩, q⟩ h3
  obtain ⟨as, rd, hsm, hd⟩ := rpt_reads hK hP hw I tx r h1
  have ref : ∀ a, u = .ref a → wpAny (model X.prog X.w) X.A (pyReprObj u) (fun w s' => wpAny (model X.prog X.w) X.A (formatField w Str.empty) (EP X pins σ Q) X.xe s') X.xe s := by
    rintro a rfl
    exact PySem.pyReprObj_of_reads rd h2 hsm hg (by omega) (fun _ _ e => e) (fun h' w tk hk => fin h' w tk hk) h3
  cases x with
  | non => obtain rfl := tx.non; cases r; exact pyReprObj_none (fin s.heap _ _ fun _ _ e => e)
  | bl b => obtain rfl := tx.bl; cases r; exact pyReprObj_bool (fin s.heap _ _ fun _ _ e => e)
  | int i => obtain rfl := tx.int; obtain ⟨tk, rfl⟩ := r; exact pyReprObj_int (by simpa [PV.toD, PyData.showable] using h2) (fin s.heap _ _ fun _ _ e => e)
  | str i => obtain rfl := tx.str; obtain ⟨tk, rfl⟩ := r; exact pyReprObj_str (fin s.heap _ _ fun _ _ e => e) h3
  | tup l => obtain ⟨a, vs, rfl, _, _⟩ := tx.tup; cases r; exact ref a rfl
  | lst l => obtain ⟨a, vs, rfl, _, _⟩ := tx.lsts; cases r; exact ref a rfl
  | dct ks l => obtain ⟨a, _, vs, rfl, _, _⟩ := tx.dcts; cases r; exact ref a rfl
  | ty n => simp [PV.rpt, PV.dat, PV.isd] at h1
  | fn n => simp [PV.rpt, PV.dat, PV.isd] at h1
  | frz n => simp [PV.rpt, PV.dat, PV.isd] at h1
  | ins _ _ => simp [PV.rpt, PV.dat, PV.isd] at h1
  | cas _ _ => simp [PV.rpt, PV.dat, PV.isd] at h1
  | dic _ => simp [PV.rpt, PV.dat, PV.isd] at h1
theorem e_fmtR (hK : X.K = C.K) (hP : X.prog = C.P) (hw : X.w = C.w) (hg : X.A.guards = some []) (hu : X.A.units + 65 < cLine) (h : PE X e (tOf C L W fe)) : PE X (.FormattedValue e 114 none pos) (tOf C L W fun s => (fe s).bind fun x s1 => match deref s1 x with
    | some u => match fmtV true u with
      | some v => .ok (.val v) s1
      | none => .no
    | none => .no) := by
  constructor
  rintro pins s σ H Q I ⟨z, p, sr, q⟩
  apply wpAny_FormattedValue_repr
  dsimp only at q
  refine thn (h.run pins s σ H (fun v H1 => ∃ z1 x t, Top C z1 H1 x v ∧ biV .repr [x] = some (.val (.str t)) ∧ Q (.str t) H1) I ⟨z, p, sr, ?_⟩) fun u s1 ⟨v, H1, I1, r1, z1, x, t, tx, hr, q1⟩ => fmt_repr hK hP hw hg hu I1 tx r1 hr q1
  cases e1 : fe p with
  | no => rw [e1] at q; exact q
  | er x p1 => rw [e1] at q; exact q
  | ok x p1 =>
    rw [e1] at q
    intro v H1 z1 g rr
    dsimp only [Rs.bind] at q
    cases e2 : deref p1 x with
    | none => rw [e2] at q; exact q.elim
    | some y =>
      rw [e2] at q
      dsimp only at q
      unfold fmtV at q
      rw [if_pos rfl] at q
      cases e3 : biV .repr [y] with
      | none => rw [e3] at q; exact q.elim
      | some r =>
        rw [e3] at q
        cases r with
        | val w =>
          cases w with
          | str t => exact ⟨z1, y, t, deref_top g.rel rr e2, e3, q _ _ _ g (.val (.str t))⟩
          | _ => exact q.elim
        | _ => exact q.elim
theorem shown_int (i : Int) : (PyData.int i).shown = Str.ofString (toString i) := by first | rfl | simp [PyData.shown]
theorem e_fmtS (h : PE X e (tOf C L W fe)) : PE X (.FormattedValue e (-1) none pos) (tOf C L W fun s => (fe s).bind fun x s1 => match deref s1 x with
    | some u => match fmtV false u with
      | some v => .ok (.val v) s1
      | none => .no
    | none => .no) := by
  refine PE.imp (pe_fmt h) ?_
  rintro σ H Q ⟨z, p, sr, q⟩
  dsimp only at q
  refine ⟨z, p, sr, ?_⟩
  cases e1 : fe p with
  | no => rw [e1] at q; exact q
  | er x p1 => rw [e1] at q; exact q
  | ok x p1 =>
    rw [e1] at q
    intro v H1 z1 g rr
    dsimp only [Rs.bind] at q
    cases e2 : deref p1 x with
    | none => rw [e2] at q; exact q.elim
    | some y =>
      rw [e2] at q
      dsimp only at q
      unfold fmtV at q
      rw [if_neg (by decide)] at q
      have tp := deref_top g.rel rr e2
      cases y with
      | str t =>
        obtain rfl := tp.str
        dsimp only at q
        split at q
        · rename_i v hv
          split at hv
          · cases hv; exact .inl ⟨t, rfl, by rename_i hl; rw [← line_eq]; exact hl, q _ _ _ g (.val (.str t))⟩
          · cases hv
        · exact q.elim
      | int i =>
        obtain rfl := tp.int
        dsimp only at q
        cases e3 : biV .repr [.int i] with
        | none => rw [e3] at q; exact q.elim
        | some r =>
          rw [e3] at q
          simp only [biV] at e3
          split at e3
          · rename_i hc
            simp only [Bool.and_eq_true, decide_eq_true_eq] at hc
            cases e3
            refine .inr ⟨i, rfl, by simpa [PV.toD, PyData.showable] using hc.1.2, ?_⟩
            have := q _ _ _ g (.val (.str _))
            simp only [PV.toD, shown_int] at this
            exact this
          · cases e3
      | _ => exact q.elim
theorem part_str {cl : Cl} {tb : Nat → Option Fd} {c : CE} (h : partB c = true) {p p1 : Sg} {r : RV} (e : evE cl tb c p = .ok r p1) : ∃ t, r = .val (.str t) := by
  unfold partB at h
  split at h
  · unfold evE at e; cases e; exact ⟨_, rfl⟩
  · rename_i rr a
    unfold evE at e
    cases e1 : evE cl tb a p with
    | no => rw [e1] at e; cases e
    | er x p1 => rw [e1] at e; cases e
    | ok x p2 =>
      rw [e1] at e
      dsimp only [Rs.bind] at e
      split at e
      · rename_i u hu
        split at e
        · rename_i v hv
          cases e
          unfold fmtV at hv
          split at hv
          · split at hv
            · cases hv; exact ⟨_, rfl⟩
            · cases hv
          · split at hv
            · split at hv
              · cases hv; exact ⟨_, rfl⟩
              · cases hv
            · split at hv
              · cases hv; exact ⟨_, rfl⟩
              · cases hv
            · cases hv
        · cases e
      · cases e
  · cases h
theorem app_len (a b : Str) : (a ++ b).length = a.length + b.length := by
  first | exact Str.length_append a b | (show (a.cps ++ b.cps).size = _; simp [Str.length])
theorem app_assoc (a b c : Str) : a ++ b ++ c = a ++ (b ++ c) := by
  first | exact Str.append_assoc a b c | (show (⟨a.cps ++ b.cps ++ c.cps⟩ : Str) = ⟨a.cps ++ (b.cps ++ c.cps)⟩; rw [Array.append_assoc])
theorem app_nil (a : Str) : a ++ (⟨#[]⟩ : Str) = a := by
  show (⟨a.cps ++ #[]⟩ : Str) = a
  rw [Array.append_empty]
theorem nil_app (a : Str) : (Str.empty : Str) ++ a = a := by
  show (⟨#[] ++ a.cps⟩ : Str) = a
  rw [Array.empty_append]
theorem cat_cons {y : Str} {l : List PV} {t : Str} (h : catS (.str y :: l) = some t) : ∃ u, catS l = some u ∧ t = y ++ u ∧ y.length + u.length ≤ line := by
  simp only [catS] at h
  split at h
  · rename_i u hu
    split at h
    · cases h; exact ⟨u, hu, rfl, by assumption⟩
    · cases h
  · cases h
/-- the parts, one after the other -/
theorem join_read {cl : Cl} {tb : Nat → Option Fd} : ∀ (cs : List CE) (acc : Str) (σ : L2.St) (H : Hp) (Q : Str → Hp → Prop) (z : As) (p p1 : Sg) (rs : List RV) (l : List PV) (t : Str), cs.all partB = true → SRel C L z H p σ →
    evEs cl tb cs p = .ok rs p1 → valsOf rs = some l → catS l = some t → acc.length + t.length ≤ line → (∀ H1 z1, Go C L z H p σ z1 H1 p1 σ → Q (acc ++ t) H1) → tJs (cs.map fun c => tOf C L W (evE cl tb c)) acc σ H Q
  | [], acc, σ, H, Q, z, p, p1, rs, l, t, _, sr, e, e1, e2, _, q => by
    unfold evEs at e
    cases e; cases e1; cases e2
    have := q H z (.refl sr)
    rw [app_nil] at this
    exact this
  | c :: cs, acc, σ, H, Q, z, p, p2, rs, l, t, hb, sr, e, e2, e3, hl, q => by
    simp only [List.all_cons, Bool.and_eq_true] at hb
    unfold evEs at e
    refine ⟨z, p, sr, ?_⟩
    cases e1 : evE cl tb c p with
    | no => rw [e1] at e; cases e
    | er x p1 => rw [e1] at e; cases e
    | ok r p1 =>
      rw [e1] at e
      obtain ⟨y, rfl⟩ := part_str hb.1 e1
      intro v H1 z1 g rr
      cases rr with | val h => ?_
      cases h
      dsimp only [Rs.bind] at e
      cases e4 : evEs cl tb cs p1 with
      | no => rw [e4] at e; cases e
      | er x p1 => rw [e4] at e; cases e
      | ok rs' p3 =>
        rw [e4] at e
        cases e
        unfold valsOf at e2
        dsimp only [valOf] at e2
        cases e5 : valsOf rs' with
        | none => rw [e5] at e2; cases e2
        | some l' =>
          rw [e5] at e2
          cases e2
          obtain ⟨u, h1, rfl, h3⟩ := cat_cons e3
          rw [app_len] at hl
          refine ⟨y, rfl, by rw [app_len, ← line_eq]; omega, join_read cs (acc ++ y) σ H1 Q z1 p1 p2 rs' l' u hb.2 g.rel e4 e5 h1 (by rw [app_len]; omega) fun H2 z2 g2 => ?_⟩
          rw [app_assoc]
          exact q H2 z2 (g.trans sr g2)
theorem pj_of {cl : Cl} {tb : Nat → Option Fd} : ∀ (cs : List CE) (es : List Expr), Paired (fun c e => PE X e (tOf C L W (evE cl tb c))) cs es → PJ X es (cs.map fun c => tOf C L W (evE cl tb c))
  | [], _, h => by cases h; exact .nil
  | c :: cs, _, h => by cases h with | cons a b => exact .cons a (pj_of cs _ b)
theorem e_fst {cl : Cl} {tb : Nat → Option Fd} {cs : List CE} {e1 e2 : Expr} {es : List Expr} (hb : cs.all partB = true) (h : Paired (fun c e => PE X e (tOf C L W (evE cl tb c))) cs (e1 :: e2 :: es)) : PE X (.JoinedStr (e1 :: e2 :: es) pos) (tOf C L W (evE cl tb (.fst cs))) := by
  refine PE.imp (pe_joined (pj_of cs _ h)) ?_
  rintro σ H Q ⟨z, p, sr, q⟩
  unfold evE at q
  cases e : evEs cl tb cs p with
  | no => rw [e] at q; exact q.elim
  | er x p1 => rw [e] at q; exact q.elim
  | ok rs p1 =>
    rw [e] at q
    dsimp only at q
    cases e2 : valsOf rs with
    | none => rw [e2] at q; exact q.elim
    | some l =>
      rw [e2] at q
      dsimp only at q
      cases e3 : catS l with
      | none => rw [e3] at q; exact q.elim
      | some t =>
        rw [e3] at q
        have len : ∀ {l : List PV} {t : Str}, catS l = some t → t.length ≤ line := fun {l t} h => by
          cases l with
          | nil => cases h; exact Nat.zero_le _
          | cons a l =>
            cases a with
            | str y => obtain ⟨u, _, rfl, h3⟩ := cat_cons h; rw [app_len]; exact h3
            | _ => simp [catS] at h
        refine join_read cs Str.empty σ H _ z p p1 rs l t hb sr e e2 e3 (by have := len e3; show 0 + t.length ≤ line; omega) fun H1 z1 g => ?_
        rw [nil_app]
        exact q _ _ _ g (.val (.str t))
end
end Mp

/-! MpDc: dict displays. -/
namespace Mp
open PySem PySem.Spec PyProof.Rows L2
section
variable {C : Ctx} {L : Act} {W : WX} {X : Cx} {z z0 z' : As} {H H0 H' : Hp} {p p0 p' : Sg} {σ : L2.St}
/-- an object of nobody's is written -/
theorem Go.put {D : Addr} {o o' : HO} (g : Go C L z0 H0 p0 σ z H p σ) (hz : z D) (hn : H0 D = none) (no : ¬ Own p σ D) (e : H D = some o) (mo : MutO o) : Go C L z0 H0 p0 σ z (upd H D o') p σ := by
  have ne : ∀ a u, H a = some u → a ≠ D → upd H D o' a = some u := fun a u h n => by rw [upd_ne n]; exact h
  have st : Stp (fun a => a = D) z H z (upd H D o') := ⟨fun a u h n _ => ne a u h n, fun a h => by
      by_cases q : a = D
      · subst q; rw [upd_same] at h; cases h
      · rw [upd_ne q] at h; exact h, fun a h _ => h, fun a h => .inl h⟩
  have m : MOk (fun a => a = D) z H := ⟨fun a q => by subst q; exact hz, fun a q => by subst q; exact ⟨_, e, mo⟩⟩
  refine ⟨⟨g.rel.len, fun a h q => g.rel.zt a h (st.there a q), fun a h => g.rel.h0 a (st.there a h), fun i x h => ?_, fun i t x h => ?_, g.rel.dj, g.rel.mp, tabs_upd g.rel.tb e mo, fun j hs q => (g.rel.lm j hs q).step st m⟩, ⟨fun a u h n nt => ?_, fun a h => g.stp.there a (st.there a h), g.stp.priv, g.stp.new⟩, g.own⟩
  · obtain ⟨v, h1, h2⟩ := g.rel.pv i x h
    exact ⟨v, h1, h2.step st m⟩
  · obtain ⟨a, u, h1, h2, h3, h4, h5, h6⟩ := g.rel.ow i t x h
    have na : a ≠ D := fun q => no ⟨i, t, x, h, by rw [← q]; exact h1⟩
    exact ⟨a, u, h1, h2, ne a u h3 na, h4, h5.step st m fun b eb => by cases eb; exact na, h6⟩
  · exact ne a u (g.stp.keep a u h n nt) fun q => by subst q; rw [hn] at h; cases h
theorem put_stp {D : Addr} {o o' : HO} (hz : z D) (e : H D = some o) (mo : MutO o) : Stp (fun a => a = D) z H z (upd H D o') ∧ MOk (fun a => a = D) z H :=
  ⟨⟨fun a u h n _ => by rw [upd_ne n]; exact h, fun a h => by
      by_cases q : a = D
      · subst q; rw [upd_same] at h; cases h
      · rw [upd_ne q] at h; exact h, fun a h _ => h, fun a h => .inl h⟩, ⟨fun a q => by subst q; exact hz, fun a q => by subst q; exact ⟨_, e, mo⟩⟩⟩
/-! ### keys -/
theorem putK_new {kvs : List (Key × V)} {k : Key} {v : V} (h : k ∉ kvs.map (·.1)) : putK kvs k v = kvs ++ [(k, v)] := by
  unfold putK
  rw [if_neg]
  intro q
  obtain ⟨kv, h1, h2⟩ := List.any_eq_true.mp q
  exact h (List.mem_map.mpr ⟨kv, h1, of_decide_eq_true h2⟩)
theorem merge_new : ∀ (more kvs : List (Key × V)), ((kvs ++ more).map (·.1)).Nodup → mergeK kvs more = kvs ++ more
  | [], kvs, _ => by simp [mergeK]
  | p :: r, kvs, nd => by
    have h1 : p.1 ∉ kvs.map (·.1) := by
      rw [List.map_append, List.nodup_append] at nd
      intro h
      exact nd.2.2 p.1 h p.1 (by simp) rfl
    show mergeK (putK kvs p.1 p.2) r = _
    rw [putK_new h1, merge_new r _ (by rw [List.append_assoc]; exact nd), List.append_assoc]
    rfl
def flatP : List (V × V) → List V
  | [] => []
  | (a, b) :: r => a :: b :: flatP r
def prs (f : CE → TE) : List CE → List (TE × TE)
  | a :: b :: r => (f a, f b) :: prs f r
  | _ => []
def evenL {α : Type} : List α → Bool
  | [] => true
  | [_] => false
  | _ :: _ :: r => evenL r
theorem pairs_read {cl : Cl} {tb : Nat → Option Fd} : ∀ (kvs : List CE) (σ : L2.St) (H : Hp) (Q : List (V × V) → Hp → Prop) (z : As) (p : Sg), evenL kvs = true → SRel C L z H p σ →
    OutE C L W (RRepL C) σ z H p (fun us H1 => ∀ ps, us = flatP ps → Q ps H1) (evEs cl tb kvs p) → tPairs (prs (fun c => tOf C L W (evE cl tb c)) kvs) σ H Q
  | [], σ, H, Q, z, p, _, sr, q => by
    unfold evEs at q
    exact q [] H z (.refl sr) .nil [] rfl
  | [_], _, _, _, _, _, h, _, _ => by cases h
  | a :: b :: r, σ, H, Q, z, p, h, sr, q => by
    unfold evEs at q
    refine ⟨z, p, sr, ?_⟩
    cases e1 : evE cl tb a p with
    | no => rw [e1] at q; exact q
    | er x p1 => rw [e1] at q; exact q
    | ok x p1 =>
      rw [e1] at q
      intro v H1 z1 g1 r1
      dsimp only [Rs.bind] at q
      unfold evEs at q
      refine ⟨z1, p1, g1.rel, ?_⟩
      cases e2 : evE cl tb b p1 with
      | no => rw [e2] at q; exact q
      | er y p2 => rw [e2] at q; exact fun cls d H2 z2 g2 xr => q cls d H2 z2 (g1.trans sr g2) xr
      | ok y p2 =>
        rw [e2] at q
        intro w H2 z2 g2 r2
        dsimp only [Rs.bind] at q
        have g12 := g1.trans sr g2
        refine pairs_read r σ H2 _ z2 p2 h g2.rel ?_
        cases e3 : evEs cl tb r p2 with
        | no => rw [e3] at q; exact q
        | er y p3 => rw [e3] at q; exact fun cls d H3 z3 g3 xr => q cls d H3 z3 (g12.trans sr g3) xr
        | ok rs p3 =>
          rw [e3] at q
          intro us H3 z3 g3 r3 ps eps
          have up : RRepL C z3 H H3 p3 σ rs us := r3.up fun a n => g12.stp.there a n
          have q2 : RRepL C z3 H H3 p3 σ (y :: rs) (w :: us) := by
            refine .cons ((r2.go g2.rel g3).up fun a n => g1.stp.there a n) up ?_
            rintro y' a' rfl rfl hf
            have := (frsIn_facts r3 a' hf).1
            cases r2 with
            | frs _ _ _ q _ _ => rw [q] at this; cases this
          refine q (v :: w :: us) H3 z3 (g12.trans sr g3) (.cons ((r1.go g1.rel g2).go g2.rel g3) q2 ?_) ((v, w) :: ps) (by rw [eps]; rfl)
          rintro y' a' rfl rfl hf
          cases r1 with
          | frs _ _ _ q1 _ _ =>
            obtain ⟨i, y2, h1, h2⟩ := hf
            cases i with
            | zero =>
              simp at h1 h2
              subst h1 h2
              cases r2 with
              | frs q3 _ _ _ _ _ => rw [q1] at q3; cases q3
            | succ i =>
              have := (frsIn_facts r3 a' ⟨i, y2, by simpa using h1, by simpa using h2⟩).1
              cases g2' : H2 a' with
              | none => 
                have := g2.stp.there a' g2'
                rw [q1] at this; cases this
              | some o => rw [g2'] at this; cases this
theorem unpair_flat : ∀ {l ks vs : List PV} {us : List V} {ps : List (V × V)}, unpair l = some (ks, vs) → RepL C z H l us → us = flatP ps → RepL C z H ks (ps.map (·.1)) ∧ RepL C z H vs (ps.map (·.2))
  | [], ks, vs, us, ps, e, r, h => by
    cases e; cases r
    cases ps with
    | nil => exact ⟨.nil, .nil⟩
    | cons a b => cases h
  | [_], _, _, _, _, e, _, _ => by cases e
  | k :: v :: l, ks, vs, us, ps, e, r, h => by
    simp only [unpair] at e
    split at e
    · rename_i ks' vs' e'
      cases e
      cases r with | cons r1 r => cases r with | cons r2 r =>
        cases ps with
        | nil => cases h
        | cons q ps =>
          obtain ⟨a, b⟩ := q
          simp only [flatP, List.cons.injEq] at h
          obtain ⟨rfl, rfl, h⟩ := h
          obtain ⟨i1, i2⟩ := unpair_flat e' r h
          exact ⟨.cons r1 i1, .cons r2 i2⟩
    · cases e
theorem even_unpair : ∀ {l : List PV}, evenL l = true → ∃ ks vs, unpair l = some (ks, vs)
  | [], _ => ⟨_, _, rfl⟩
  | [_], h => by cases h
  | k :: v :: l, h => by
    obtain ⟨ks, vs, e⟩ := even_unpair (l := l) h
    exact ⟨_, _, by simp only [unpair, e]; rfl⟩
theorem keys_kV : ∀ {ks : List PV} {l : List Key} {us : List V}, keysOf ks = some l → RepL C z H ks us → us = l.map kV
  | [], l, us, e, r => by cases e; cases r; rfl
  | k :: ks, l, us, e, r => by
    simp only [keysOf] at e
    split at e
    · rename_i a b h1 h2
      cases e
      cases r with | cons r1 r2 =>
        rw [keys_kV h2 r2]
        cases k <;> simp [keyOf] at h1
        · subst h1; cases r1; rfl
        · subst h1; cases r1; rfl
    · cases e
theorem flat_even : ∀ {l : List V}, evenL l = true → ∃ ps, l = flatP ps
  | [], _ => ⟨[], rfl⟩
  | [_], h => by cases h
  | a :: b :: l, h => by
    obtain ⟨ps, e⟩ := flat_even (l := l) h
    exact ⟨(a, b) :: ps, by rw [e]; rfl⟩
theorem unpair_len : ∀ {l ks vs : List PV}, unpair l = some (ks, vs) → ks.length = vs.length
  | [], _, _, e => by cases e; rfl
  | [_], _, _, e => by cases e
  | _ :: _ :: l, _, _, e => by
    simp only [unpair] at e
    split at e
    · rename_i ks' vs' e'; cases e; simp [unpair_len e']
    · cases e
theorem zip_pairs : ∀ (ps : List (V × V)) (l : List Key), ps.map (·.1) = l.map kV → ps = (l.zip (ps.map (·.2))).map (fun kv => (kV kv.1, kv.2))
  | [], l, _ => by cases l <;> rfl
  | (a, b) :: ps, [], h => by cases h
  | (a, b) :: ps, k :: l, h => by
    simp only [List.map_cons, List.cons.injEq] at h
    simp only [List.map_cons, List.zip_cons_cons, h.1]
    rw [← zip_pairs ps l h.2]
/-- what is read of a display's parts -/
theorem rd_dct {cl : Cl} {tb : Nat → Option Fd} {kvs : List CE} (hv : evenL kvs = true) (ne : kvs ≠ []) : ∀ σ H Q, tOf C L W (evE cl tb (.dct kvs)) σ H Q → tDisp (prs (fun c => tOf C L W (evE cl tb c)) kvs) σ H Q := by
  rintro σ H Q ⟨z, p, sr, q⟩ D hD
  unfold evE at q
  have g0 : Go C L z H p σ (fun b => z b ∨ b = D) (upd H D (.dK [])) p σ := (Go.refl sr).more sr hD
  refine pairs_read kvs σ _ _ _ p hv g0.rel ?_
  cases e1 : evEs cl tb kvs p with
  | no => rw [e1] at q; exact q
  | er x p1 => rw [e1] at q; exact fun cls d H1 z1 g xr => q cls d H1 z1 (g0.trans sr g) xr
  | ok rs p1 =>
    rw [e1] at q
    intro us H1 z1 g rr ps eps
    dsimp only [Rs.bind] at q
    cases e2 : valsOf rs with
    | none => rw [e2] at q; exact q.elim
    | some l =>
      rw [e2] at q
      dsimp only at q
      cases e3 : dctV l with
      | none => rw [e3] at q; exact q.elim
      | some x =>
        rw [e3] at q
        unfold dctV at e3
        cases e4 : unpair l with
        | none => rw [e4] at e3; cases e3
        | some kvp =>
          obtain ⟨ks, vs⟩ := kvp
          rw [e4] at e3
          dsimp only at e3
          cases e5 : keysOf ks with
          | none => rw [e5] at e3; cases e3
          | some lk =>
            rw [e5] at e3
            dsimp only at e3
            split at e3
            case isFalse => cases e3
            rename_i hnd
            cases e3
            have nOwnD : ¬ Own p σ D := fun ⟨i, t, x, a1, a2⟩ => by
              obtain ⟨b, o, h1, _, h3, _⟩ := sr.ow i t x a1
              rw [a2] at h1; cases h1; rw [hD] at h3; cases h3
            have nD1 : ¬ Own p1 σ D := fun h => by
              rcases g.own D h with h | h
              · exact nOwnD h
              · rw [upd_same] at h; cases h
            have eD : H1 D = some (.dK []) := g.stp.keep D _ upd_same nOwnD True.intro
            have zD : z1 D := g.stp.priv D (.inr rfl) nOwnD
            have gg := g0.trans sr g
            have rv := vals_rep rr e2 (FrsIn rs us) fun a q => q
            have gl := gg.less sr (FrsIn rs us) fun a ha => ⟨(by
              have h1 := (frsIn_facts rr a ha).1
              by_cases hq : a = D
              · rw [hq]; exact hD
              · rw [upd_ne hq] at h1; exact h1), (frsIn_facts rr a ha).2⟩
            have nF : ¬ FrsIn rs us D := fun h => by
              have := (frsIn_facts rr D h).1
              rw [upd_same] at this; cases this
            obtain ⟨rk, rvs⟩ := unpair_flat e4 rv eps
            have hk := keys_kV e5 rk
            have lenk := keysOf_len e5
            have lenv := unpair_len e4
            have l2 := rvs.length
            have l1 := rk.length
            have hz : lk.length = (ps.map (·.2)).length := by rw [← l2, lenk, lenv]
            refine ⟨eD, lk.zip (ps.map (·.2)), zip_pairs ps lk hk, ?_, ?_⟩
            · rw [List.length_zip]; have := hnd.2; omega
            · have em : mergeK [] (lk.zip (ps.map (·.2))) = lk.zip (ps.map (·.2)) := by
                have := merge_new (lk.zip (ps.map (·.2))) [] (by
                  rw [List.nil_append]
                  have : (lk.zip (ps.map (·.2))).map (·.1) = lk := by rw [List.map_fst_zip]; omega
                  rw [this]; exact hnd.1)
                simpa using this
              rw [em]
              have gf := gl.put (o' := .dK (lk.zip (ps.map (·.2)))) ⟨zD, nF⟩ hD nD1 eD True.intro
              have stp := put_stp (z := fun a => z1 a ∧ ¬ FrsIn rs us a) (H := H1) (o' := .dK (lk.zip (ps.map (·.2)))) ⟨zD, nF⟩ eD True.intro
              exact q _ _ _ gf (.frs hD ⟨zD, nF⟩ nD1 upd_same True.intro (.dct upd_same e5 hz (rvs.step stp.1 stp.2)))
/-- {..} -/
theorem e_dct0 {pos : Pos} {cl : Cl} {tb : Nat → Option Fd} : PE X (.Dict [] [] pos) (tOf C L W (evE cl tb (.dct []))) := by
  refine PE.imp pe_dnewK ?_
  rintro σ H Q ⟨z, p, sr, q⟩ D hD
  unfold evE evEs at q
  exact (Ans.dct (ks := []) (l := []) (vs := []) hD rfl rfl .nil).fin sr (.refl sr) fun v H1 z1 g rr => q v H1 z1 g rr
end
end Mp

/-! MpFz: a dict that is written no more. -/
namespace Mp
open PySem PySem.Spec PyProof.Rows L2
section
variable {X : Cx} {e : Expr} {te : TE}
theorem inv_fz {pins : List (Addr × Obj)} {σ : L2.St} {H : Hp} {s : Shared} {a : Addr} {kvs : List (Key × V)} (I : Inv X pins σ H s) (e : H a = some (.dK kvs)) : ∃ o : Obj, Inv X pins σ (upd H a (.frz o (.dK kvs))) s := by
  have ok : ObjOk X.prog X.w H s.heap a (.dK kvs) := I.hok a _ e
  obtain ⟨o, ho⟩ := objOk_get ok
  have ne : ∀ {b : Addr} {u : HO}, H b = some u → u ≠ .dK kvs → b ≠ a := fun {b u} h d q => by
    rw [q, e] at h
    exact d (Option.some.inj h).symm
  have un : Un X.fs [] H (upd H a (.frz o (.dK kvs))) s.heap s.heap := {
    keep := fun b u q n _ _ => q
    slot := fun b u q n _ _ => ⟨u.slots, q⟩
    free := fun b u q n _ => by
      have nb : b ≠ a := fun z => by rw [z, e] at n; cases n
      rw [upd_ne nb]; exact n
    there := fun b u q _ => ⟨u, q⟩
    tups := fun b xs q => by rw [upd_ne (ne q (by simp))]; exact q
    frzs := fun b u v q => by rw [upd_ne (ne q (by simp))]; exact q
    tbls := fun b ps q => ⟨#[], by rw [upd_ne (ne q (by simp)), q]; simp⟩ }
  have hok : HOk X.prog X.w (upd H a (.frz o (.dK kvs))) s.heap := fun b u q => by
    by_cases hb : b = a
    · subst hb
      rw [upd_same] at q
      cases q
      exact ⟨ho, ok⟩
    · rw [upd_ne hb] at q
      exact (I.hok b u q).stay (fun c v hc z => z) (fun c hc => by
        rw [upd_ne (ne hc (by simp))]; exact hc) fun c xs hc => by
        rw [upd_ne (ne hc (by simp))]; exact hc
  exact ⟨o, I.un (t' := s.toks) un hok⟩
theorem pe_fz (h : PE X e te) : PE X e (fun σ H Q => te σ H fun x H1 => ∃ a kvs, x = .ref a ∧ H1 a = some (.dK kvs) ∧ ∀ o, Q (.ref a) (upd H1 a (.frz o (.dK kvs)))) := by
  refine ⟨fun pins s σ H Q I q => thn (h.run pins s σ H _ I q) fun u s1 ⟨x, H1, I1, r1, a, kvs, ex, e, q1⟩ => ?_⟩
  subst ex
  obtain ⟨o, J⟩ := inv_fz I1 e
  exact ⟨.ref a, _, J, r1, q1 o⟩
end
section
variable {C : Ctx} {L : Act} {W : WX} {X : Cx} {z : As} {H : Hp} {p : Sg} {σ : L2.St}
/-- an own dict's slot, frozen -/
theorem SRel.fz {i : Nat} {t : Bool} {ks xs : List PV} (s : SRel C L z H p σ) (e : p[i]? = some (.own t (.dct ks xs))) :
    ∃ (a : Addr) (l : List Key) (vs : List V), σ[i]? = some (some (V.ref a)) ∧ H a = some (.dK (l.zip vs)) ∧ ∀ o, Go C L z H p σ (fun b => z b ∧ b ≠ a) (upd H a (.frz o (.dK (l.zip vs)))) (p.set i (.pv (.dct ks xs))) σ ∧ Rep C (fun b => z b ∧ b ≠ a) (upd H a (.frz o (.dK (l.zip vs)))) (.dct ks xs) (.ref a) := by
  obtain ⟨a, u, h1, h2, h3, h4, h5, h6⟩ := s.ow i t _ e
  have hi : i < p.length := (List.getElem?_eq_some_iff.mp e).1
  cases h5 with
  | of h => cases h with | dct e2 _ _ _ => rw [e2] at h3; cases h3; exact h4.elim
  | dct e2 hk hl r =>
    rename_i l vs
    refine ⟨a, l, vs, h1, e2, fun o => ?_⟩
    have st0 := put_stp (o' := .frz o (.dK (l.zip vs))) h2 e2 True.intro
    have st : Stp (fun b => b = a) z H (fun b => z b ∧ b ≠ a) (upd H a (.frz o (.dK (l.zip vs)))) := st0.1.drop a (.inr rfl)
    have rx : Rep C (fun b => z b ∧ b ≠ a) (upd H a (.frz o (.dK (l.zip vs)))) (.dct ks xs) (.ref a) := .dct upd_same hk hl (r.step st st0.2)
    have own' : ∀ {j u y}, (p.set i (.pv (.dct ks xs)))[j]? = some (.own u y) → j ≠ i ∧ p[j]? = some (.own u y) := fun {j u y} q => by
      by_cases hj : i = j
      · subst hj; rw [List.getElem?_set_self hi] at q; cases q
      · rw [List.getElem?_set_ne hj] at q; exact ⟨Ne.symm hj, q⟩
    have ownA : Own p σ a := ⟨i, t, _, e, h1⟩
    refine ⟨⟨⟨by simpa using s.len, fun b q => ?_, fun b q => s.h0 b (st.there b q), fun j y q => ?_, fun j u y q => ?_, fun j k u w y y2 b q1 q2 => ?_, s.mp, tabs_upd s.tb e2 True.intro, fun j hs q => (s.lm j hs (lam_set (fun _ => by simp) q).2).step st st0.2⟩, ⟨fun b u q n nt => st.keep b u q (fun q2 => n (by rw [q2]; exact ownA)) nt, st.there, fun b q n => ⟨q, fun q2 => n (by rw [q2]; exact ownA)⟩, fun b q => .inl q.1⟩, fun b ⟨j, u, y, q1, q2⟩ => .inl ⟨j, u, y, (own' q1).2, q2⟩⟩, rx⟩
    · rw [upd_ne q.2]; exact s.zt b q.1
    · by_cases hj : i = j
      · subst hj; rw [List.getElem?_set_self hi] at q; cases q; exact ⟨_, h1, rx⟩
      · rw [List.getElem?_set_ne hj] at q
        obtain ⟨v, g1, g2⟩ := s.pv j y q
        exact ⟨v, g1, g2.step st st0.2⟩
    · obtain ⟨hj, q'⟩ := own' q
      obtain ⟨b, o', g1, g2, g3, g4, g5, g6⟩ := s.ow j u y q'
      have nb : b ≠ a := fun z => hj (s.dj j i u t y _ a q' e (by rw [g1, z]) h1)
      exact ⟨b, o', g1, ⟨g2, nb⟩, by rw [upd_ne nb]; exact g3, g4, g5.step st st0.2 fun c ec => by cases ec; exact nb, g6⟩
    · exact s.dj j k u w y y2 b (own' q1).2 (own' q2).2
theorem e_fz {e : Expr} {fe : Sg → Rs RV} (h : PE X e (tOf C L W fe)) : PE X e (tOf C L W fun s => (fe s).bind fun r s1 => fzV r s1) := by
  refine PE.imp (pe_fz h) ?_
  rintro σ H Q ⟨z, p, s, q⟩
  refine ⟨z, p, s, ?_⟩
  dsimp only at q
  cases e1 : fe p with
  | no => rw [e1] at q; exact q
  | er x p1 => rw [e1] at q; exact q
  | ok r p1 =>
    rw [e1] at q
    dsimp only [Rs.bind] at q
    intro v H1 z1 g rr
    unfold fzV at q
    split at q
    · rename_i ks xs
      cases rr with
      | frs n hz no ho mo tp =>
        rename_i a o
        cases tp with
        | of h => cases h with | dct e2 _ _ _ => rw [e2] at ho; cases ho; exact mo.elim
        | dct e2 hk hl r =>
          rename_i l vs
          refine ⟨a, _, rfl, e2, fun ob => ?_⟩
          have st0 := put_stp (o' := .frz ob (.dK (l.zip vs))) hz e2 True.intro
          have g1 := g.put (o' := .frz ob (.dK (l.zip vs))) hz n no e2 True.intro
          have g2 := g1.less s (fun b => b = a) fun b hb => by subst hb; exact ⟨n, no⟩
          have st : Stp (fun b => b = a) z1 H1 (fun b => z1 b ∧ b ≠ a) (upd H1 a (.frz ob (.dK (l.zip vs)))) := st0.1.drop a (.inr rfl)
          exact q _ _ _ g2 (.val (.dct upd_same hk hl (r.step st st0.2)))
    · rename_i i
      split at q
      · rename_i t ks xs e2
        cases rr with
        | bor h =>
          obtain ⟨a, l, vs, h1, h2, h3⟩ := g.rel.fz e2
          rw [h] at h1
          cases h1
          refine ⟨a, _, rfl, h2, fun ob => ?_⟩
          obtain ⟨g2, rx⟩ := h3 ob
          exact q _ _ _ (g.trans s g2) (.val rx)
      · exact q.elim
    · exact q.elim
end
end Mp

/-! MpDp: a dict comprehension by the interpreter. -/
namespace Mp
open PySem PySem.Spec PyProof.Rows L2
section
variable {C : Ctx} {L : Act} {W : WX} {X : Cx} {N : List Str} {sc : Scope} {k : Nat}
theorem key_v {z : As} {H : Hp} {x : PV} {k : Key} {v : V} (h : keyOf x = some k) (r : Rep C z H x v) : v = kV k := by
  cases x <;> simp [keyOf] at h
  · subst h; cases r; rfl
  · subst h; cases r; rfl
theorem keysOf_snoc : ∀ {ks : List PV} {l : List Key} {x : PV} {k : Key}, keysOf ks = some l → keyOf x = some k → keysOf (ks ++ [x]) = some (l ++ [k])
  | [], l, x, k, h, hx => by
    cases h
    show keysOf [x] = _
    simp only [keysOf, hx, List.nil_append]
  | y :: ks, l, x, k, h, hx => by
    simp only [keysOf] at h
    split at h
    · rename_i a b h1 h2
      cases h
      show keysOf (y :: (ks ++ [x])) = _
      simp only [keysOf, h1, keysOf_snoc h2 hx, List.cons_append]
    · cases h
theorem putK_zip {l : List Key} {us : List V} {k : Key} {y : V} (h : k ∉ l) (hl : l.length = us.length) : putK (l.zip us) k y = (l ++ [k]).zip (us ++ [y]) := by
  unfold putK
  rw [if_neg, List.zip_append hl]
  · rfl
  · rw [List.any_eq_true]
    rintro ⟨⟨a, b⟩, h1, h2⟩
    have := (List.of_mem_zip h1).1
    simp only [decide_eq_true_eq] at h2
    subst h2
    exact h this
theorem dc_read {kd : IK} {fsrc : Sg → Rs (List RV)} {tg : Tg} {own : List Nat} {tst : Sg → Rs Bool} {ke ve : Sg → Rs RV} (ht : ∀ i ∈ tg.slots, i ∈ own) (hm : ∀ i ∈ own, i ∉ L.mp.map (·.1)) :
    ∀ σ H Q, tOf C L W (fun s => (fsrc s).bind fun rs s1 => match valsOf rs with
      | some l => match itV kd l with
        | some xs => (dcGo own tg tst ke ve xs [] [] s1).bind fun x s2 => .ok (.frs x) s2
        | none => .no
      | none => .no) σ H Q → tDc (iOf C L W kd fsrc) (gOf C L tg) (tOfB C L W0 tst) (tOf C L W0 ke) (tOf C L W0 ve) own σ H Q := by
  rintro σ H Q ⟨z0, p0, s, q⟩
  refine ⟨z0, p0, s, ?_⟩
  dsimp only at q
  cases e1 : fsrc p0 with
  | no => rw [e1] at q; exact q
  | er x p1 => rw [e1] at q; exact q
  | ok rs p1 =>
    rw [e1] at q
    dsimp only [Rs.bind] at q
    unfold OutI
    dsimp only
    cases e2 : valsOf rs with
    | none => rw [e2] at q; exact q
    | some l =>
      rw [e2] at q
      dsimp only at q ⊢
      cases e3 : itV kd l with
      | none => rw [e3] at q; exact q
      | some xs =>
        rw [e3] at q
        dsimp only at q ⊢
        intro J H1 z1 G wk hG g1 D hD
        let fin : PV → Sg → Rs RV := fun x s2 => .ok (.frs x) s2
        let Wv : Nat → Nat → Hp → Prop := fun i m Hc => ∃ z p ks us lk vs, Go C L z0 H p0 σ z Hc p σ ∧ z D ∧ ¬ Own p σ D ∧ Hc D = some (.dK (List.zip lk vs)) ∧ keysOf ks = some lk ∧ lk.length = vs.length ∧ RepL C z Hc us vs ∧ G z Hc ∧ m = xs.length - i ∧ i ≤ xs.length ∧
          OutE C L W (RRep C) σ z0 H p0 Q ((dcGo own tg tst ke ve (xs.drop i) ks us p).bind fin)
        have hHD : H D = none := g1.stp.there D hD
        have start : Wv 0 (xs.length - 0) (upd H1 D (.dK [])) := by
          refine ⟨_, p1, [], [], [], [], g1.more s hD, .inr rfl, fun ⟨i, t, x, a1, a2⟩ => ?_, upd_same, rfl, rfl, .nil, wk.stay _ _ _ _ _ hG (new_stp (o := .dK []) hD).1 (new_stp (o := .dK []) hD).2, rfl, Nat.zero_le _, q⟩
          obtain ⟨b, o, h1, _, h3, _⟩ := g1.rel.ow i t x a1
          rw [a2] at h1; cases h1; rw [hD] at h3; cases h3
        refine ⟨Wv, ⟨_, start⟩, ?_⟩
        rintro i m Hc ⟨z, p, ks, us, lk, vs, g, hz, no, hDv, hks, hlv, rl, hg, rfl, hi, out⟩
        by_cases hlt : i < xs.length
        · have ei : xs[i]? = some xs[i] := List.getElem?_eq_getElem hlt
          rw [List.drop_eq_getElem_cons hlt] at out
          unfold dcGo at out
          refine .inr ⟨wk.go i _ z Hc ei hg, fun H' => ∃ m', m' < xs.length - i ∧ Wv (i + 1) m' H', fun H' h => h, fun x Hy y => ?_⟩
          obtain ⟨kext, rx⟩ := wk.yld i _ z Hc x Hy ei hg y
          have sw := (g.rel.ext kext).wipe (own := own) hm
          refine ⟨z, wipeP p own, xs[i], sw, rx, ?_⟩
          cases e4 : tg.store xs[i] (wipeP p own) with
          | none => rw [e4] at out; exact out
          | some p' =>
            rw [e4] at out
            dsimp only at out ⊢
            intro σ' s' o' k'
            have same : ∀ j, j ∉ own → σ'[j]? = σ[j]? := fun j hj => by
              rw [k' j fun h => hj (ht j h), wipe_out hj]
            have hl : σ'.length = σ.length := by
              rw [← s'.len]
              have := sw.len
              rw [wipe_length] at this
              have l2 : p'.length = (wipeP p own).length := by
                have a := s'.len
                clear out
                exact store_len tg _ _ _ e4
              omega
            have nD : ¬ Own p' σ' D := fun h => by
              obtain ⟨i', t, x', _, a1, a2⟩ := own_wipe (o' D h)
              exact no ⟨i', t, x', a1, a2⟩
            have m1 := s'.mok
            have hyD : Hy D = some (.dK (lk.zip vs)) := kext _ _ hDv
            have est := ext_stp (z := z) kext
            have rl1 := rl.step est.1 est.2
            have hg1 := wk.stay _ _ _ _ _ hg est.1 est.2
            refine ⟨wipe_ext hl fun j hj => by rw [same j hj, wipe_out hj], z, p', s', ?_⟩
            cases e5 : tst p' with
            | no => rw [e5] at out; exact out
            | er x2 s2 => rw [e5] at out; exact out.elim
            | ok b s2 =>
              rw [e5] at out
              rintro b' H3 z3 g3 rfl
              cases b with
              | false =>
                dsimp only at out
                refine iteF ⟨xs.length - (i + 1), by omega, z3, backP p s2 own, ks, us, lk, vs, turn_back s g kext o' same hl g3, g3.stp.priv D hz nD, ?_, g3.stp.keep D _ hyD nD True.intro, hks, hlv, rl1.step g3.stp m1, wk.stay _ _ _ _ _ hg1 g3.stp m1, rfl, hlt, out⟩
                rintro ⟨j, t, x', a1, a2⟩
                have tb := turn_back s g kext o' same hl g3
                by_cases hj : j ∈ own
                · rw [backP_in (by have := (List.getElem?_eq_some_iff.mp a1).1; rw [backP_len] at this; exact this) (by have a := g3.rel.len; have b := g.rel.len; omega) hj] at a1
                  exact no ⟨j, t, x', a1, a2⟩
                · rw [backP_out hj] at a1
                  rcases g3.own D ⟨j, t, x', a1, by rw [same j hj]; exact a2⟩ with h | h
                  · exact nD h
                  · rw [hyD] at h; cases h
              | true =>
                dsimp only at out
                refine iteT ⟨z3, s2, g3.rel, ?_⟩
                cases e6 : ke s2 with
                | no => rw [e6] at out; exact out
                | er x2 s3 => rw [e6] at out; exact out.elim
                | ok r s3 =>
                  rw [e6] at out
                  intro yk H4 z4 g4 rr
                  cases r with
                  | frs _ => exact out.elim
                  | bor _ => exact out.elim
                  | val kx =>
                  dsimp only at out
                  cases rr with
                  | val rk =>
                  refine ⟨z4, s3, g4.rel, ?_⟩
                  cases e8 : ve s3 with
                  | no => rw [e8] at out; exact out
                  | er x2 s4 => rw [e8] at out; exact out.elim
                  | ok r s4 =>
                  rw [e8] at out
                  dsimp only at out
                  intro y H5 z5 g5' rr
                  cases e7 : valOf r with
                  | none => rw [e7] at out; exact out.elim
                  | some v =>
                    rw [e7] at out
                    dsimp only at out
                    split at out
                    · rename_i hk
                      unfold dkOk at hk
                      rw [hks] at hk
                      cases ek : keyOf kx with
                      | none => rw [ek] at hk; cases hk
                      | some kk =>
                      rw [ek] at hk
                      simp only [Bool.and_eq_true, decide_eq_true_eq] at hk
                      obtain ⟨hk0, hk2⟩ := hk
                      have hk1 : kk ∉ lk := fun hm => (List.nodup_append.mp hk0).2.2 kk hm kk (List.mem_singleton.mpr rfl) rfl
                      have g34 := g3.trans s' g4
                      have g345 := g34.trans s' g5'
                      obtain ⟨F, hF, rv⟩ := val_less (rr.up fun a h => g34.stp.there a h) e7
                      have g5 := g345.less s' F hF
                      have tb := turn_back s g kext o' same hl g5
                      have hzD : z5 D ∧ ¬ F D := ⟨g345.stp.priv D hz nD, fun h => by have := (hF D h).1; rw [hyD] at this; cases this⟩
                      have h5D : H5 D = some (.dK (lk.zip vs)) := g345.stp.keep D _ hyD nD True.intro
                      have rl5 := rl1.step g5.stp m1
                      have nb : ¬ Own (backP p s4 own) σ D := by
                        rintro ⟨j, t, x', a1, a2⟩
                        by_cases hj : j ∈ own
                        · rw [backP_in (by have := (List.getElem?_eq_some_iff.mp a1).1; rw [backP_len] at this; exact this) (by have a := g345.rel.len; have b := g.rel.len; omega) hj] at a1
                          exact no ⟨j, t, x', a1, a2⟩
                        · rw [backP_out hj] at a1
                          rcases g345.own D ⟨j, t, x', a1, by rw [same j hj]; exact a2⟩ with h | h
                          · exact nD h
                          · rw [hyD] at h; cases h
                      have ws := put_stp (z := fun a => z5 a ∧ ¬ F a) (o' := .dK (putK (lk.zip vs) kk y)) hzD h5D True.intro
                      have hzl : (lk.zip vs).length < sizeLine := by
                        rw [List.length_zip, ← line_eq]
                        have : 15 ≤ line := by decide
                        omega
                      refine ⟨_, kk, key_v ek rk, h5D, hzl, xs.length - (i + 1), by omega, _, backP p s4 own, ks ++ [kx], us ++ [v], lk ++ [kk], vs ++ [y], tb.put hzD hHD nb h5D True.intro, hzD, nb, ?_, keysOf_snoc hks ek, by simp [hlv], ?_, wk.stay _ _ _ _ _ (wk.stay _ _ _ _ _ hg1 g5.stp m1) ws.1 ws.2, rfl, hlt, out⟩
                      · rw [putK_zip hk1 hlv, upd_same]
                      · exact (rl5.step ws.1 ws.2).append (.cons (rv.step ws.1 ws.2) .nil)
                    · exact out.elim
        · have ei : i = xs.length := by omega
          subst ei
          refine .inl ⟨wk.stop _ z Hc rfl hg, ?_⟩
          rw [List.drop_length] at out
          unfold dcGo at out
          exact out (.ref D) Hc z g (.frs hHD hz no hDv trivial (.dct hDv hks hlv rl))
end
end Mp

/-! MpOb: fields of instances (not wired into the checker yet). -/
namespace Mp
open PySem PySem.Spec PyProof.Rows L2
section
variable {C : Ctx} {L : Act} {W : WX} {X : Cx} {z : As} {H : Hp} {p : Sg} {σ : L2.St}
theorem Top.inss {c : Nat} {xs : List PV} {v : V} (h : Top C z H (.ins c xs) v) : ∃ (a A dx : Addr) (names : List Str) (fv : List (Str × V)) (vs : List V), v = .ref a ∧ C.ic c = some (A, names) ∧ H a = some (.ins A dx fv) ∧ H dx = some (.own a) ∧ Flds names fv vs ∧ RepL C z H xs vs := by
  cases h with
  | of h => cases h with | ins e1 e2 e3 _ e4 r => exact ⟨_, _, _, _, _, _, rfl, e1, e2, e3, e4, r⟩
  | ins e1 e2 e3 e4 r => exact ⟨_, _, _, _, _, _, rfl, e1, e2, e3, e4, r⟩
/-- e.f -/
theorem e_fld {c i : Nat} {A : Addr} {names : List Str} {f : Str} {e : Expr} {pos : Pos} {fe : Sg → Rs RV} (hK : X.K = C.K) (hic : C.ic c = some (A, names)) (cl : Cls C.K A) (hn : names[i]? = some f) (na : NoAttr C.K A f)
    (hb : attributeBase e f X.env (eval e X.env) = eval e X.env) (h : PE X e (tOf C L W fe)) :
    PE X (.Attribute e f pos) (tOf C L W fun s => (fe s).bind fun r s1 => match deref s1 r with
      | some x => match fldV c i x with
        | some v => .ok (.val v) s1
        | none => .no
      | none => .no) := by
  refine PE.imp (pe_fld h hb) ?_
  rintro σ H Q ⟨z, p, sr, q⟩
  dsimp only at q
  refine ⟨z, p, sr, ?_⟩
  cases e1 : fe p with
  | no => rw [e1] at q; exact q
  | er x p1 => rw [e1] at q; exact q
  | ok r p1 =>
    rw [e1] at q
    intro v H1 z1 g rr
    dsimp only [Rs.bind] at q
    cases e2 : deref p1 r with
    | none => rw [e2] at q; exact q.elim
    | some y =>
      rw [e2] at q
      dsimp only at q
      have tp := deref_top g.rel rr e2
      cases e3 : fldV c i y with
      | none => rw [e3] at q; exact q.elim
      | some x =>
        rw [e3] at q
        unfold fldV at e3
        split at e3
        · rename_i c' xs
          split at e3
          · rename_i hc
            subst hc
            obtain ⟨a, A', dx, names', fv, vs, rfl, h1, h2, h3, h4, h5⟩ := tp.inss
            rw [hic] at h1
            cases h1
            obtain ⟨w, g1, g2⟩ := h5.get e3
            exact ⟨a, A, dx, fv, w, rfl, h2, by rw [hK]; exact cl, by rw [hK]; exact na, h4.1 i f w hn g1, q _ _ _ g (.val g2)⟩
          · cases e3
        · cases e3
/-- an own thing is written -/
theorem Go.mutO {z0 : As} {H0 : Hp} {p0 : Sg} {σ0 : L2.St} {i : Nat} {t : Bool} {x y : PV} {o o' : HO} {D : Addr} (g : Go C L z0 H0 p0 σ0 z H p σ) (s0 : SRel C L z0 H0 p0 σ0) (e : p[i]? = some (.own t x)) (es : σ[i]? = some (some (.ref D)))
    (hD : H D = some o) (mo : MutO o) (mo' : MutO o') (r : Top C z (upd H D o') y (.ref D)) : Go C L z0 H0 p0 σ0 z (upd H D o') (p.set i (.own t y)) σ := by
  have sp := g.rel
  have hi : i < p.length := (List.getElem?_eq_some_iff.mp e).1
  obtain ⟨D', o1, h1, hz, h3, h4, h5, h6⟩ := sp.ow i t x e
  rw [es] at h1; cases h1
  obtain ⟨st, m⟩ := put_stp (o' := o') hz hD mo
  have at1 : ∀ {j : Nat} {sl : Slot}, (p.set i (.own t y))[j]? = some sl → (j = i ∧ sl = .own t y) ∨ (j ≠ i ∧ p[j]? = some sl) := fun {j sl} q => by
    by_cases hj : i = j
    · subst hj; rw [List.getElem?_set_self hi] at q; cases q; exact .inl ⟨rfl, rfl⟩
    · rw [List.getElem?_set_ne hj] at q; exact .inr ⟨Ne.symm hj, q⟩
  have ownUp : ∀ a, Own (p.set i (.own t y)) σ a → Own p σ a := by
    rintro a ⟨j, u, y, e1, e2⟩
    rcases at1 e1 with ⟨hj, _⟩ | ⟨_, q⟩
    · exact ⟨i, t, x, e, by rw [← hj]; exact e2⟩
    · exact ⟨j, u, y, q, e2⟩
  refine ⟨⟨by simpa using sp.len, fun a h q => sp.zt a h (st.there a q), fun a h => sp.h0 a (st.there a h), fun j y q => ?_, fun j u y q => ?_, fun j k u w y y2 b e1 e2 e3 e4 => ?_, sp.mp, tabs_upd sp.tb hD mo, fun j hs q => (sp.lm j hs (lam_set (fun _ => by simp) q).2).step st m⟩, ⟨fun a o' h n nt => ?_, fun a h => g.stp.there a (st.there a h), g.stp.priv, g.stp.new⟩, fun a o => g.own a (ownUp a o)⟩
  · rcases at1 q with ⟨_, q⟩ | ⟨_, q⟩
    · cases q
    · obtain ⟨v, a1, a2⟩ := sp.pv j y q
      exact ⟨v, a1, a2.step st m⟩
  · rcases at1 q with ⟨hj, q'⟩ | ⟨hj, q⟩
    · cases q'
      exact ⟨D, _, by rw [hj]; exact es, hz, upd_same, mo', r, h6⟩
    · obtain ⟨b, o', a1, a2, a3, a4, a5, a6⟩ := sp.ow j u y q
      have nb : b ≠ D := fun h => hj (sp.dj j i _ _ _ _ D q e (by rw [a1, h]) es)
      exact ⟨b, o', a1, a2, by rw [upd_ne nb]; exact a3, a4, a5.step st m fun c ec => by cases ec; exact nb, a6⟩
  · have o1 : ∀ {j : Nat} {u : Bool} {y' : PV}, (p.set i (.own t y))[j]? = some (.own u y') → True := fun _ => trivial
    have o2 : ∀ {j : Nat} {u : Bool} {y' : PV}, (p.set i (Slot.own t _))[j]? = some (.own u y') → ∃ (u' : Bool) (y' : PV), p[j]? = some (.own u' y') := fun {j u y'} q => by
      rcases at1 q with ⟨rfl, _⟩ | ⟨_, q⟩
      · exact ⟨_, _, e⟩
      · exact ⟨_, _, q⟩
    obtain ⟨_, _, q1⟩ := o2 e1
    obtain ⟨_, _, q2⟩ := o2 e2
    exact sp.dj j k _ _ _ _ b q1 q2 e3 e4
  · have h' := g.stp.keep a _ h n nt
    have ne : a ≠ D := fun q => by
      subst q
      rcases g.own a ⟨i, t, x, e, es⟩ with q | q
      · exact n q
      · rw [q] at h; cases h
    rw [upd_ne ne]
    exact h'
theorem putF_len (f : Str) (v : V) : ∀ fs : List (Str × V), fs.lookup f = none → (putF f v fs).length = fs.length + 1
  | [], _ => rfl
  | (g, x) :: r, h => by
    unfold putF
    by_cases e : g = f
    · subst e; simp [List.lookup] at h
    · rw [if_neg e]
      have e' : (f == g) = false := by simpa using fun q => e q.symm
      simp only [List.lookup, e'] at h
      simp [putF_len f v r h]
/-- a new field behind the others -/
theorem Flds.add {names : List Str} {fv : List (Str × V)} {vs : List V} {f : Str} {y : V} (h : Flds names fv vs) (nd : names.Nodup) (hf : names[vs.length]? = some f) : Flds names (putF f y fv) (vs ++ [y]) := by
  refine ⟨fun i g v h1 h2 => ?_, ?_⟩
  · rw [lookup_putF]
    by_cases hi : i < vs.length
    · rw [List.getElem?_append_left hi] at h2
      have ne : g ≠ f := fun q => by
        subst q
        have l1 := (List.getElem?_eq_some_iff.mp h1).1
        have l2 := (List.getElem?_eq_some_iff.mp hf).1
        have e1 := (List.getElem?_eq_some_iff.mp h1).2
        have e2 := (List.getElem?_eq_some_iff.mp hf).2
        exact absurd ((List.getElem_inj nd).mp (e1.trans e2.symm)) (Nat.ne_of_lt hi)
      rw [if_neg ne]
      exact h.1 i g v h1 h2
    · have hl := (List.getElem?_eq_some_iff.mp h2).1
      rw [List.length_append, List.length_singleton] at hl
      have ei : i = vs.length := by omega
      subst ei
      rw [hf] at h1; cases h1
      rw [List.getElem?_concat_length] at h2; cases h2
      rw [if_pos rfl]
  · rw [List.length_append, List.length_singleton]
    have := length_putF f y fv
    have := h.2
    omega
/-- o.f as a target -/
theorem pg_fld {o : Expr} {f : Str} {pos : Pos} {to : TE} (ho : PE X o to) : PG X (.Attribute o f pos) (fun v σ H Q => to σ H fun x H1 => ∃ a A dx fs, x = .ref a ∧ H1 a = some (.ins A dx fs) ∧ Cls X.K A ∧ NoAttr X.K A f ∧ fs.length < 1000 ∧ Q σ (upd H1 a (.ins A dx (putF f v fs)))) := by
  refine ⟨fun pins s σ H v u Q I r q => ?_⟩
  rw [arm_assign_Attribute]
  refine wpAny_bind (wpAny_holding (thn (ho.run pins s σ H _ I q) fun ov s1 ⟨x, H1, I1, rx, a, A, dx, fs, ex, ea, c, n, l, q1⟩ => ?_))
  subst ex
  obtain rfl : ov = Value.ref a := rx
  refine wpAny_bind (wpAny_standAt (wpAny_bind (wpAny_holding (setattr_ok I1 ea c n l r fun s2 I2 => ?_))))
  exact wpAny_release ⟨σ, _, I2, q1⟩
end
end Mp

/-! MpD: what the check of an expression means. -/
namespace Mp
open PySem PySem.Spec PyProof.Rows L2 RZ

/-- a code object of which lambdas are made -/
structure LmAt (C : Ctx) (code : Value) (q : Str) : Prop where
  ex : ∃ c P : Addr, code = .ref c ∧ LamX.TabB C.base C.mg c P ∧ (P, q) ∈ C.ts ∧ ∀ p ∈ C.ts, p.1 = P → p.2 = q
structure Ok (C : Ctx) (L : Act) (W : WX) (k : Nat) (A : Pl) (X : Cx) : Prop where
  x : XOk C W k X A.N A.sc
  kind : A.sc.kind = .function
  fl : A.fc = true → ∀ x, X.fn x = true
  mp : ∀ i, A.mp.contains i = false → i ∉ L.mp.map (·.1)
  lm : A.lm = true → Room (3 * k + 2) X.A ∧ LmAt C X.env.code (X.env.qual ++ "<lambda>") ∧ L.lp = some ⟨A.sc, A.N, X.env.cells, X.env.qual ++ "<lambda>"⟩
  fr : A.fc = true → Room (3 * k + 2) X.A
  cs : ∀ x, A.cs.contains x = true → X.fn x = true
/-- a class of errors that are made of a text -/
structure TxtC (K : PySem.W.Frag) (A : Addr) : Prop where
  ex : ∃ (B newId initId : String) (bmB : List Value), ExcBaseFacts B newId initId bmB ∧ PySem.W.excIn K A bmB newId = true
  kp : PySem.W.keepIn K (.ref A) = true
  sb : PySem.W.subIn K (.ref A) (.type "BaseException") = some true
  ty : PySem.W.typeIn K (.ref A) = some (.type "type")
/-- a def that calls what it gets, and answers a word -/
structure WordAt (C : Ctx) (P : Tb) (d : Fd) (w : Wd) : Prop where
  ex : ∃ (f : Addr) (fd : FuncData) (params : Arguments) (body : List Stmt) (scope : Scope), C.mg d.name = some (.ref f) ∧ FunD C.K d.name d.name params body scope [] [] f fd ∧ FnScope d.N (d.N.take d.np) scope ∧ wdB P d w scope body = true ∧ L2.Binds C.K fd (d.N.take d.np) []
/-- what isinstance asks of a class -/
structure InsT (K : PySem.W.Frag) (A : Addr) : Prop where
  ha : PySem.W.findIn K (.ref A) "__class__" = some (some (.builtin "object.__class__"))
  hn : PySem.W.specialIn K (.builtin "object.__class__") "__get__" = some (some (.builtin "getset_descriptor.__get__"))
  htk : PySem.W.takesIn K (.builtin "object.__class__") = some true
  hm : PySem.W.mroIn K A (.type "object") = some true
/-- a class of instances: its object, its fields, its __init__ -/
structure PlOk (C : Ctx) (P : Tb) (k : Nat) (cl : Cl) (c : Nat) (q : Str × List Str × Nat) : Prop where
  ex : ∃ (A fI : Addr) (fd : FuncData) (d : Fd), C.mg q.1 = some (.ref A) ∧ C.ic c = some (A, q.2.1) ∧ Cls C.K A ∧ (∀ f ∈ q.2.1, NoAttr C.K A f) ∧ Mk C.K A fI ∧ q.2.1.Nodup ∧ InsT C.K A ∧ P.tb q.2.2 = some d ∧ FnG C k fI fd (d.N.take d.np) (spOf C cl q.2.2 d) ∧ (d.N.take d.np).length = d.np ∧ L2.Binds C.K fd (d.N.take d.np) []
abbrev lamFd (N : List Str) (e : CE) : Fd := ⟨"", N, N.length, [], [], [.ret e], none, false⟩
/-- the lambdas of the table, by the runs one level down -/
def LamOk (C : Ctx) (P : Tb) (k : Nat) (cl : Cl) : Prop := ∀ h N e, P.tb h = some (lamFd N e) → ∃ fb : Sg → Rs RV,
  (∀ (A : Pl) (body : Expr), A.N = N → chkE P A e body = true → ∀ (L : Act) (W : WX) (X : Cx), Ok C L W k A X → PE X body (tOf C L W fb)) ∧
  ∀ p : Sg, p.length = N.length → (∃ r s1 r2 s2, cl h p = .ok r2 s2 ∧ fb p = .ok r s1) ∨ (∃ x s1 s2, cl h p = .er x s2 ∧ fb p = .er x s1) ∨ cl h p = .no
def tyKinds : List String := ["NoneType", "bool", "int", "str", "tuple", "list", "dict"]
structure GOk (C : Ctx) (P : Tb) (k : Nat) (cl : Cl) : Prop where
  tb : C.tb = P.tb
  cs : ∀ x v, P.cs.lookup x = some v → ∃ u w, C.mg x = some u ∧ RelV w u ∧ ∀ z H, Rep C z H v w
  ty : ∀ n ∈ tyNames, C.mg (Str.ofString n) = none
  bi : ∀ b, C.mg (biName b) = none
  rg : C.mg "range" = none
  zp : C.mg "zip" = none
  en : C.mg "enumerate" = none
  df : ∀ g d, P.tb g = some d → d.name ≠ "" → DefOk C k cl g d
  xc : ∀ (c : Nat) (q : Str × Option (Nat × Str)), P.xs[c]? = some q → ∃ A : Addr, C.mg q.1 = some (.ref A) ∧ C.xc c = some (.ref A) ∧ (q.2 = none → TxtC C.K A) ∧ ∀ g f, q.2 = some (g, f) → XfC C.K A ∧ PySem.W.findIn C.K (.ref A) f = some none
  xm : ∀ (c c' : Nat) (A A' : Value), C.xc c = some A → C.xc c' = some A' → PySem.W.exmOne C.K A A' = some (decide (c = c'))
  xl : ∀ (c : Nat) (A : Value), C.xc c = some A → ∃ q, P.xs[c]? = some q
  ab : isAbs C.tb = false
  wd : ∀ g d w, P.tb g = some d → d.wd = some w → WordAt C P d w
  fn : ∀ g d, P.tb g = some d → d.name ≠ "" → ∃ f : Addr, C.mg d.name = some (.ref f) ∧ C.gv g = some (.ref f)
  gn : ∀ g v, C.gv g = some v → ∃ d, P.tb g = some d ∧ d.name ≠ ""
  ic : ∀ c q, P.ic[c]? = some q → PlOk C P k cl c q
  il : ∀ c A n, C.ic c = some (A, n) → ∃ q, P.ic[c]? = some q ∧ n = q.2.1
  kt : ∀ c c' A A' n n', C.ic c = some (A, n) → C.ic c' = some (A', n') → PySem.W.kitOne C.K (.ref A) (.ref A') = some (decide (c = c'))
  kb : ∀ c A n t, C.ic c = some (A, n) → t ∈ tyKinds → PySem.W.kitOne C.K (.type t) (.ref A) = some false
  lk : ∀ sc N h params body scope, C.lk sc N h params body scope ↔ lamChk P sc N h params body scope = true
  la : LamOk C P k cl

mutual
theorem beq_eq : ∀ (x y : PV), x.beq y = true → x = y
  | .non, y, h => by cases y <;> simp_all [PV.beq]
  | .bl a, y, h => by cases y <;> simp_all [PV.beq]
  | .int a, y, h => by cases y <;> simp_all [PV.beq]
  | .str a, y, h => by
    cases y <;> simp_all [PV.beq]
    rename_i b
    cases a; cases b; simp_all
  | .ty a, y, h => by cases y <;> simp_all [PV.beq]
  | .fn a, y, h => by cases y <;> simp_all [PV.beq]
  | .dic a, y, h => by cases y <;> simp_all [PV.beq]
  | .frz a, y, h => by cases y <;> simp_all [PV.beq]
  | .dct a b, y, h => by
    cases y <;> first | (simp [PV.beq] at h; done) | skip
    simp only [PV.beq, Bool.and_eq_true] at h
    rw [beqL_eq a _ h.1, beqL_eq b _ h.2]
  | .ins a b, y, h => by
    cases y <;> first | (simp [PV.beq] at h; done) | skip
    simp only [PV.beq, Bool.and_eq_true, decide_eq_true_eq] at h
    rw [h.1, beqL_eq b _ h.2]
  | .cas a b, y, h => by
    cases y <;> first | (simp [PV.beq] at h; done) | skip
    simp only [PV.beq, Bool.and_eq_true, decide_eq_true_eq] at h
    rw [h.1, beqL_eq b _ h.2]
  | .tup a, y, h => by
    cases y <;> first | (simp [PV.beq] at h; done) | skip
    rw [beqL_eq a _ (by simpa [PV.beq] using h)]
  | .lst a, y, h => by
    cases y <;> first | (simp [PV.beq] at h; done) | skip
    rw [beqL_eq a _ (by simpa [PV.beq] using h)]
theorem beqL_eq : ∀ (x y : List PV), PV.beqL x y = true → x = y
  | [], y, h => by cases y <;> simp_all [PV.beqL]
  | x :: xs, y, h => by
    cases y with
    | nil => simp [PV.beqL] at h
    | cons y ys =>
      simp only [PV.beqL, Bool.and_eq_true] at h
      rw [beq_eq x y h.1, beqL_eq xs ys h.2]
end
theorem boot_ty : ∀ n ∈ tyNames, bootBuiltins (Str.ofString n) = some (.type n) ∧ Str.ofString n ≠ "__name__" := by
  intro n h
  simp only [tyNames, List.mem_cons, List.not_mem_nil, or_false] at h
  rcases h with rfl | rfl | rfl | rfl | rfl | rfl <;> exact ⟨by rfl, by decide⟩
section
variable {C : Ctx} {L : Act} {W : WX} {k : Nat} {A : Pl} {X : Cx} {P : Tb} {cl : Cl}
theorem Ok.gl {x : Str} (o : Ok C L W k A X) (h : glB A.sc x = true) : Gl X x := by
  show X.env.scope.names.lookup x = some .globalImplicit
  rw [o.x.sc]
  unfold glB at h
  split at h
  · assumption
  · cases h
theorem Ok.vis {x : Str} (o : Ok C L W k A X) (h : visB A.sc x = true) : Vis X.env.scope x := by
  unfold Vis
  rw [o.x.sc]
  unfold visB at h
  split at h
  · exact .inl (by assumption)
  · exact .inr (.inl (by assumption))
  · exact .inr (.inr (by assumption))
  · cases h
theorem okName_of {x : Str} (h : okName x = true) : (x == ("__debug__" : Str)) = false ∧ (x == ("__classdict__" : Str)) = false := by
  unfold okName at h
  simp only [Bool.and_eq_true, Bool.not_eq_true'] at h
  exact h.1
theorem okName_ne {x : Str} (h : okName x = true) : x ≠ "" := by
  unfold okName at h
  simp only [Bool.and_eq_true, Bool.not_eq_true', beq_eq_false_iff_ne] at h
  exact h.2
theorem var_ok {i : Nat} {x : Str} {p : Pos} (o : Ok C L W k A X) (h : varB A i x = true) : PE X (.Name x p) (tVar i) := by
  unfold varB at h
  simp only [Bool.and_eq_true, decide_eq_true_eq] at h
  obtain ⟨⟨h1, h2⟩, h3⟩ := h
  exact pe_var (by rw [o.x.names]; exact h1) (o.vis h2) (okName_of h3).1 (okName_of h3).2
theorem store_ok' {i : Nat} {x : Str} (o : Ok C L W k A X) (h : storeB A i x = true) : X.N.Nodup ∧ X.N[i]? = some x ∧ L2.Loc X.env.scope x ∧ (X.fn x = true ∨ X.env.scope.names.lookup x = some .local) ∧ i ∉ L.mp.map (·.1) := by
  unfold storeB at h
  simp only [Bool.and_eq_true, decide_eq_true_eq, Bool.not_eq_true'] at h
  obtain ⟨⟨h1, h2⟩, h3⟩ := h
  refine ⟨by rw [o.x.names]; exact o.x.nd, by rw [o.x.names]; exact h1, ?_, ?_, o.mp i h2⟩
  · unfold L2.Loc
    rw [o.x.sc]
    split at h3
    · exact .inl (by assumption)
    · exact .inr (by assumption)
    · cases h3
  · rw [o.x.sc]
    split at h3
    · exact .inr (by assumption)
    · rcases Bool.or_eq_true_iff.mp h3 with h4 | h4
      · exact .inl (o.fl h4 x)
      · exact .inl (o.cs x h4)
    · cases h3
theorem cst_ok {v : PV} {e : Expr} (G : GOk C P k cl) (o : Ok C L W k A X) (h : cstB P A v e = true) : PE X e (tOf C L W fun s => .ok (.val v) s) := by
  unfold cstB at h
  split at h
  · rename_i c _ _
    unfold conB at h
    split at h
    · exact e_con pe_non fun z H => .non
    · obtain rfl := eq_of_beq h; exact e_con pe_bl fun z H => .bl _
    · obtain rfl := of_decide_eq_true h; exact e_con pe_int fun z H => .int _
    · obtain rfl := of_decide_eq_true h; exact e_con pe_str fun z H => .str _
    · cases h
  · rename_i x _
    simp only [Bool.and_eq_true] at h
    obtain ⟨⟨h1, h2⟩, h3⟩ := h
    split at h3
    · rename_i v' hv
      obtain rfl := beq_eq _ _ h3
      obtain ⟨u, w, m, r, rp⟩ := G.cs _ _ hv
      exact e_con (pe_glob (o.gl h1) (by rw [o.x.mg]; exact m) r (okName_of h2).1) rp
    replace h3 := Bool.or_eq_true_iff.mp h3
    rcases h3 with h3 | h3
    · unfold tyB at h3
      split at h3
      · rename_i n
        simp only [Bool.and_eq_true, decide_eq_true_eq, List.contains_iff_mem] at h3
        obtain ⟨rfl, hn⟩ := h3
        exact e_con (pe_bltn (o.gl h1) (by rw [o.x.mg]; exact G.ty n hn) (boot_ty n hn).1 (show RelV (.ty n) (.type n) from rfl) (boot_ty n hn).2 (okName_of h2).1) fun z H => .ty _
      · cases h3
    · unfold fnB at h3
      split at h3
      · rename_i g
        split at h3
        · rename_i d hd
          simp only [Bool.and_eq_true, decide_eq_true_eq, Bool.not_eq_true', decide_eq_false_iff_not] at h3
          obtain ⟨rfl, hn⟩ := h3
          obtain ⟨f, e1, e2⟩ := G.fn g d hd hn
          exact e_con (pe_glob (o.gl h1) (by rw [o.x.mg]; exact e1) (show RelV (.ref f) (.ref f) from rfl) (okName_of h2).1) fun z H => .fn e2
        · cases h3
      · cases h3
  · cases h
theorem RepL.rev {z : As} {H : Hp} : ∀ {xs : List PV} {vs : List V}, RepL C z H xs vs → RepL C z H xs.reverse vs.reverse
  | [], _, h => by cases h; exact .nil
  | _ :: _, _, h => by
    cases h with
    | cons a b => rw [List.reverse_cons, List.reverse_cons]; exact (RepL.rev b).append (.cons a .nil)
theorem e_rev {a : Expr} {fa : Sg → Rs RV} {kk : Nat} {p1 p2 p3 pos : Pos} (hK : X.K = C.K) (ha : PE X a (tOf C L W fa)) : PE X (.Subscript a (.Slice none none (some (.UnaryOp .USub (.Constant (.int 1) kk p1) p2)) p3) pos) (tOf C L W fun s => (fa s).bind fun x s1 => match deref s1 x with
    | some (.lst l) => .ok (.frs (.lst l.reverse)) s1
    | _ => .no) := by
  refine PE.imp (pe_revL ha) (read1 (r := fun x H1 Q => ∃ a xs, x = .ref a ∧ SqL X.K H1 a xs ∧ ∀ p, H1 p = none → Q (.ref p) (upd H1 p (.lst xs.reverse))) fun z H p σ Q z2 H2 p2 x v s g r q => ?_)
  cases e : deref p2 x with
  | none => rw [e] at q; exact q.elim
  | some y =>
    rw [e] at q
    cases y with
    | lst l =>
      obtain ⟨b, vs, rfl, sq, rp⟩ := (deref_top g.rel r e).lsts
      exact ⟨b, vs, rfl, .of sq, fun p n => (Ans.lst n rp.rev).fin s g q⟩
    | _ => exact q.elim
theorem tg_nm {i : Nat} {x : Str} {p : Pos} (o : Ok C L W k A X) (h : storeB A i x = true) : PG X (.Name x p) (gOf C L (.nm i)) := by
  obtain ⟨h1, h2, h3, h4, h5⟩ := store_ok' o h
  exact g_nm (pg_name h1 h2 h3 h4) h5
mutual
theorem okTg (o : Ok C L W k A X) : ∀ (t : Tg) (e : Expr), chkTg A t e = true → PG X e (gOf C L t)
  | .nm i, e, h => by
    cases e <;> first | exact tg_nm o (by simpa [chkTg] using h) | (simp [chkTg] at h; done)
  | .tp ts, e, h => by
    cases e <;> first | (simp [chkTg] at h; done) | skip
    rename_i es kk pos
    obtain ⟨q1, q2, q3⟩ := okTgs o ts es (by simpa [chkTg] using h)
    exact g_tp o.x.K o.x.calm q1 (by rw [asE_len, q2]) (asE_none _ _ q3)
theorem okTgs (o : Ok C L W k A X) : ∀ (t : List Tg) (e : List Expr), chkTgs A t e = true → PGs X e (gsOf C L t) ∧ e.length = t.length ∧ e.all noStar = true
  | [], e, h => by
    cases e with
    | nil => exact ⟨gs_nil, rfl, rfl⟩
    | cons _ _ => simp [chkTgs] at h
  | t :: ts, e, h => by
    cases e with
    | nil => simp [chkTgs] at h
    | cons e es =>
      simp only [chkTgs, Bool.and_eq_true] at h
      obtain ⟨⟨h1, h2⟩, h3⟩ := h
      obtain ⟨q1, q2, q3⟩ := okTgs o ts es h3
      exact ⟨gs_cons (okTg o t e h2) q1 (by rw [asE_cons h1]; rfl), by simp [q2], by simp [h1, q3]⟩
end
end
end Mp

/-! MpWd: readings that write nothing; a word for how a lambda ends. -/
namespace Mp
open PySem PySem.Spec PyProof.Rows L2
theorem ro_at {p : Sg} {i : Nat} {sl : Slot} (e : (ro p)[i]? = some sl) : sl = .un ∨ ∃ x, sl = .pv x ∧ p[i]? = some (.pv x) := by
  unfold ro at e
  rw [List.getElem?_map] at e
  cases h : p[i]? with
  | none => rw [h] at e; cases e
  | some y =>
    rw [h] at e
    cases y with
    | pv x => cases e; exact .inr ⟨x, rfl, rfl⟩
    | un => cases e; exact .inl rfl
    | lam _ => cases e; exact .inl rfl
    | own t x => cases e; exact .inl rfl
section
variable {C : Ctx} {L L' : Act} {W : WX} {X : Cx} {z z1 z' : As} {H H1 H' : Hp} {p p' : Sg} {σ : L2.St}
theorem no_own {a : Addr} : ¬ Own (ro p) σ a := fun ⟨i, t, x, e, _⟩ => by
  rcases ro_at e with h | ⟨_, h, _⟩ <;> cases h
theorem SRel.ro (s : SRel C L z H p σ) (z1 : As) (hz : ∀ a, z1 a → z a) (hl : L'.mp = []) (h0 : ∀ a, H a = none → L'.H0 a = none) : SRel C L' z1 H (ro p) σ where
  len := by unfold Mp.ro; rw [List.length_map]; exact s.len
  zt := fun a h => s.zt a (hz a h)
  h0 := h0
  pv := fun i x e => by
    rcases ro_at e with h | ⟨y, h, e'⟩
    · cases h
    · cases h
      obtain ⟨v, h1, h2⟩ := s.pv i x e'
      exact ⟨v, h1, h2.less hz⟩
  ow := fun i t x e => by rcases ro_at e with h | ⟨_, h, _⟩ <;> cases h
  dj := fun i j t u x y a e => by rcases ro_at e with h | ⟨_, h, _⟩ <;> cases h
  mp := by rw [hl]; intro q hq; cases hq
  tb := s.tb
  lm := fun i hs e => by rcases ro_at e with h | ⟨_, h, _⟩ <;> cases h
/-- the state behind a reading: as it was -/
theorem Go.unro (s : SRel C L z H p σ) (k : ∀ a o, H a = some o → NT o → H' a = some o) (th : ∀ a, H' a = none → H a = none) (tb : LamX.Tabs C.ts H') : Go C L z H p σ z H' p σ := by
  have st : Stp (fun _ => False) z H z H' := ⟨fun a o e _ nt => k a o e nt, th, fun a e _ => e, fun a e => .inl e⟩
  have m : MOk (fun _ => False) z H := ⟨fun _ q => q.elim, fun _ q => q.elim⟩
  refine ⟨⟨s.len, fun a e q => s.zt a e (th a q), fun a e => s.h0 a (th a e), fun i x e => ?_, fun i t x e => ?_, s.dj, s.mp, tb, fun i hs e => (s.lm i hs e).step st m⟩, ⟨fun a o e _ nt => k a o e nt, th, fun a e _ => e, fun a e => .inl e⟩, fun a h => .inl h⟩
  · obtain ⟨v, h1, h2⟩ := s.pv i x e
    exact ⟨v, h1, h2.step st m⟩
  · obtain ⟨a, o, h1, h2, h3, h4, h5, h6⟩ := s.ow i t x e
    exact ⟨a, o, h1, h2, k a o h3 h4.nt, h4, h5.step st m fun b eb q => q, h6⟩
/-- .. with what is private now -/
theorem Go.unro' {p2 : Sg} (s : SRel C L z H p σ) (g : Go C L' z H (Mp.ro p) σ z' H' p2 σ) : Go C L z H p σ z' H' p σ := by
  have st : Stp (fun _ => False) z H z' H' := ⟨fun a o e _ nt => g.stp.keep a o e no_own nt, g.stp.there, fun a e _ => g.stp.priv a e no_own, g.stp.new⟩
  have m : MOk (fun _ => False) z H := ⟨fun _ q => q.elim, fun _ q => q.elim⟩
  refine ⟨⟨s.len, g.rel.zt, fun a e => s.h0 a (g.stp.there a e), fun i x e => ?_, fun i t x e => ?_, s.dj, s.mp, g.rel.tb, fun i hs e => (s.lm i hs e).step st m⟩, ⟨fun a o e _ nt => g.stp.keep a o e no_own nt, g.stp.there, fun a e _ => g.stp.priv a e no_own, g.stp.new⟩, fun a h => .inl h⟩
  · obtain ⟨v, h1, h2⟩ := s.pv i x e
    exact ⟨v, h1, h2.step st m⟩
  · obtain ⟨a, o, h1, h2, h3, h4, h5, h6⟩ := s.ow i t x e
    exact ⟨a, o, h1, g.stp.priv a h2 no_own, g.stp.keep a o h3 no_own h4.nt, h4, h5.step st m fun b eb q => q, h6⟩
theorem ro_same (s : SRel C L z H p σ) : SRel C L z H (Mp.ro p) σ where
  len := by unfold Mp.ro; rw [List.length_map]; exact s.len
  zt := s.zt
  h0 := s.h0
  pv := fun i x e => by
    rcases ro_at e with h | ⟨y, h, e'⟩
    · cases h
    · cases h; exact s.pv i x e'
  ow := fun i t x e => by rcases ro_at e with h | ⟨_, h, _⟩ <;> cases h
  dj := fun i j t u x y a e => by rcases ro_at e with h | ⟨_, h, _⟩ <;> cases h
  mp := s.mp
  tb := s.tb
  lm := fun i hs e => by rcases ro_at e with h | ⟨_, h, _⟩ <;> cases h
/-- a reading that writes nothing -/
theorem e_spl {fe : Sg → Rs RV} {e : Expr} (h : PE X e (tOf C L W fe)) : PE X e (tOf C L W fun s => match fe (ro s) with
    | .ok r _ => (match valOf r with
      | some v => .ok (.val v) s
      | none => .no)
    | _ => .no) := by
  refine PE.imp h ?_
  rintro σ H Q ⟨z, p, s, q⟩
  dsimp only at q
  refine ⟨z, ro p, ro_same s, ?_⟩
  cases e1 : fe (ro p) with
  | no => rw [e1] at q; exact q.elim
  | er x p1 => rw [e1] at q; exact q.elim
  | ok r p1 =>
    rw [e1] at q
    dsimp only at q
    intro v H1 z1 g rr
    cases e2 : valOf r with
    | none => rw [e2] at q; exact q.elim
    | some x =>
      rw [e2] at q
      obtain ⟨F, hF, rv⟩ := val_less rr e2
      have g1 := Go.unro' s g
      have g2 := g1.less s F fun a ha => ⟨(hF a ha).1, fun ⟨i, t, y, a1, a2⟩ => by
        obtain ⟨b, o, h1, _, h3, _⟩ := s.ow i t y a1
        rw [a2] at h1; cases h1
        rw [(hF a ha).1] at h3; cases h3⟩
      exact q v H1 _ g2 (.val rv)
theorem t_spl {fb : Sg → Rs Bool} {e : Expr} (h : PT X e (tOfB C L W fb)) : PT X e (tOfB C L W fun s => match fb (ro s) with
    | .ok b _ => .ok b s
    | _ => .no) := by
  refine PT.imp h ?_
  rintro σ H Q ⟨z, p, s, q⟩
  dsimp only at q
  refine ⟨z, ro p, ro_same s, ?_⟩
  cases e1 : fb (ro p) with
  | no => rw [e1] at q; exact q.elim
  | er x p1 => rw [e1] at q; exact q.elim
  | ok b p1 =>
    rw [e1] at q
    dsimp only at q
    intro v H1 z1 g rr
    exact q v H1 z1 (Go.unro' s g) rr
theorem t_imp {f f' : Sg → Rs Bool} {e : Expr} (h : PT X e (tOfB C L W f)) (w : ∀ s b s', f' s = .ok b s' → f s = .ok b s') (we : ∀ s x s', f' s ≠ .er x s') : PT X e (tOfB C L W f') := by
  refine PT.imp h ?_
  rintro σ H Q ⟨z, p, s, q⟩
  refine ⟨z, p, s, ?_⟩
  cases e1 : f' p with
  | no => rw [e1] at q; exact q.elim
  | er x p1 => exact absurd e1 (we _ _ _)
  | ok b p1 => rw [e1] at q; rw [w _ _ _ e1]; exact q
end
/-! ### the clauses of a word -/
section
variable (C : Ctx)
/-- what the clauses make of an exception -/
def hE (K : PySem.W.Frag) : List Hd → Value → Option Addr → Hp → VK → Prop
  | [], _, _, _, _ => False
  | h :: r, cls, d, H, Q => ∃ c b, C.xc h.c = some c ∧ PySem.W.exmOne K cls c = some b ∧ (b = true → match h.f with
    | none => Q (.str h.s) H
    | some f => ∃ (A dd : Addr) (fs : List (Str × V)) (v : V) (t : Str), cls = .ref A ∧ c = .ref A ∧ d = some dd ∧ H dd = some (.xd fs) ∧ fs.lookup f = some v ∧ (∃ z u, Rep C z H u v ∧ biV .repr [u] = some (.val (.str t))) ∧ h.s.length + t.length ≤ line ∧ Q (.str (h.s ++ t)) H) ∧ (b = false → hE K r cls d H Q)
end
section
variable {C : Ctx} {X : Cx}
theorem call_repr (hK : X.K = C.K) (hP : X.prog = C.P) (hw : X.w = C.w) (hg : X.A.guards = some []) (hu : X.A.units + 65 < cLine) : CallR X (.builtin "repr") (fun xs H Q => ∃ v z u t, xs = [v] ∧ Top C z H u v ∧ biV .repr [u] = some (.val (.str t)) ∧ Q (.str t) H) := by
  rintro pins s σ H xs us Q I r ⟨v, z, x, t, rfl, tx, hr, q⟩
  obtain ⟨u, rfl, ru⟩ := vals1 r
  simp only [biV] at hr
  split at hr
  case isFalse => cases hr
  rename_i hc
  simp only [Bool.and_eq_true, decide_eq_true_eq] at hc
  cases hr
  obtain ⟨⟨h1, h2⟩, h3⟩ := hc
  obtain ⟨as, rd, hsm, hd⟩ := rpt_reads hK hP hw I tx ru h1
  have fin : ∀ (h' : Heap) (w : Tok) (tk : Nat), (∀ b o, s.heap.get? b = some o → h'.get? b = some o) → EP X pins σ Q (.str x.toD.shown w) { s with heap := h', toks := tk } := fun h' w tk hk => ⟨.str x.toD.shown, H, I.kept (t' := tk) hk, ⟨_, rfl⟩, q⟩
  have ref : ∀ a, u = .ref a → wpAny (model X.prog X.w) X.A (call (.builtin "repr") [u]) (EP X pins σ Q) X.xe s := by
    rintro a rfl
    exact PySem.repr_of_reads' rd h2 hsm hg (by omega) (fun _ _ e => e) (fun h' w tk hk => fin h' w tk hk) h3
  cases x with
  | non => obtain rfl := tx.non; cases ru; exact PySem.P.repr_of_none (fin s.heap _ _ fun _ _ e => e)
  | bl b => obtain rfl := tx.bl; cases ru; exact PySem.P.repr_of_bool (fin s.heap _ _ fun _ _ e => e)
  | int i => obtain rfl := tx.int; obtain ⟨tk, rfl⟩ := ru; exact PySem.P.repr_of_int (by simpa [PV.toD, PyData.showable] using h2) (fin s.heap _ _ fun _ _ e => e)
  | str i => obtain rfl := tx.str; obtain ⟨tk, rfl⟩ := ru; exact PySem.P.repr_of_str (fin s.heap _ _ fun _ _ e => e) h3
  | tup l => obtain ⟨a, vs, rfl, _, _⟩ := tx.tup; cases ru; exact ref a rfl
  | lst l => obtain ⟨a, vs, rfl, _, _⟩ := tx.lsts; cases ru; exact ref a rfl
  | dct ks l => obtain ⟨a, _, vs, rfl, _, _⟩ := tx.dcts; cases ru; exact ref a rfl
  | ty n => simp [PV.rpt, PV.dat, PV.isd] at h1
  | fn n => simp [PV.rpt, PV.dat, PV.isd] at h1
  | frz n => simp [PV.rpt, PV.dat, PV.isd] at h1
  | ins _ _ => simp [PV.rpt, PV.dat, PV.isd] at h1
  | cas _ _ => simp [PV.rpt, PV.dat, PV.isd] at h1
  | dic _ => simp [PV.rpt, PV.dat, PV.isd] at h1
/-- a clause of the text as the layer has it -/
def claOf (C : Ctx) (K : PySem.W.Frag) (h : Hd) (c : Value) : Cla := match h.f with
  | none => ⟨c, none, fun _ _ _ D _ H => D.rt (.str h.s) H⟩
  | some f => ⟨c, some 1, fun a cls d D σ H => σ[1]? = some (some (.ref a)) ∧ ∃ (A dd : Addr) (fs : List (Str × V)) (v : V) (t : Str), cls = .ref A ∧ c = .ref A ∧ d = some dd ∧ H dd = some (.xd fs) ∧ fs.lookup f = some v ∧ (∃ z u, Rep C z H u v ∧ biV .repr [u] = some (.val (.str t))) ∧ h.s.length + t.length ≤ line ∧ D.rt (.str (h.s ++ t)) H⟩
end
end Mp

/-! MpWe: a def that calls what it gets and answers a word. -/
namespace Mp
open PySem PySem.Spec PyProof.Rows L2 RZ
section
variable {C : Ctx} {P : Tb} {k : Nat} {cl : Cl} {X : Cx} {N : List Str} {sc : Scope}
theorem hd_text {h : Hd} {eh : ExceptHandler} (G : GOk C P k cl) (hK : X.K = C.K) (hP : X.prog = C.P) (hw : X.w = C.w) (hmg : X.mg = C.mg) (hN : X.N = N) (hsc : X.env.scope = sc) (hg : X.A.guards = some []) (hu : X.A.units + 65 < cLine) (hb : hdB P N sc h eh = true) :
    ∃ (c : Value) (x : Str) (nm : Option Str) (b0 : Stmt) (su : List Stmt) (p1 p2 : Pos), eh = .ExceptHandler (some (.Name x p1)) nm (b0 :: su) p2 ∧ C.xc h.c = some c ∧ Names X x c ∧ NmOk X nm (claOf C X.K h c).i ∧
      ∀ (a : Addr) (oe : Obj) (cls : Value) (d : Option Addr) (pn : List (Addr × Obj)), Zc cls d oe → (∃ vs, oe.data = .fields vs) → PSs (X.suite a ((a, oe) :: pn)) (b0 :: su) ((claOf C X.K h c).ts a cls d) := by
  unfold hdB at hb
  split at hb
  case h_2 => cases hb
  rename_i x p1 nm e p3 p2
  simp only [Bool.and_eq_true, decide_eq_true_eq] at hb
  obtain ⟨⟨⟨h1, h2⟩, h3⟩, h4⟩ := hb
  obtain ⟨q, hq, rfl⟩ := Option.map_eq_some_iff.mp h1
  obtain ⟨A, m1, m2, m3, m4⟩ := G.xc h.c q hq
  have gl : ∀ {y : Str}, glB sc y = true → Gl X y := fun {y} hy => by
    show X.env.scope.names.lookup y = some .globalImplicit
    rw [hsc]
    unfold glB at hy
    split at hy
    · assumption
    · cases hy
  refine ⟨.ref A, q.1, nm, _, _, p1, p2, rfl, m2, ⟨gl h2, (okName_of h3).1, .inl (by rw [hmg]; exact m1)⟩, ?_, ?_⟩
  · unfold claOf
    cases hf : h.f with
    | none =>
      rw [hf] at h4
      dsimp only at h4 ⊢
      split at h4
      · exact True.intro
      · cases h4
    | some f =>
      rw [hf] at h4
      dsimp only at h4 ⊢
      split at h4
      · simp only [Bool.and_eq_true, decide_eq_true_eq] at h4
        obtain ⟨⟨⟨⟨⟨⟨⟨⟨h5, h6⟩, h7⟩, h8⟩, h9⟩, h10⟩, h11⟩, h12⟩, h13⟩ := h4
        exact ⟨by rw [hN]; exact h5, by show X.env.scope.names.lookup _ = _; rw [hsc]; exact h6⟩
      · cases h4
  · intro a oe cls d pn hz hfl
    unfold claOf
    cases hf : h.f with
    | none =>
      rw [hf] at h4
      dsimp only at h4 ⊢
      split at h4
      · rename_i s _ _
        obtain rfl := of_decide_eq_true h4
        exact pss_one (ps_ret pe_str)
      · cases h4
    | some f =>
      rw [hf] at h4
      dsimp only at h4 ⊢
      split at h4
      case h_2 => cases h4
      rename_i n s kk ps y py n2 pn2 f2 pa pc pb
      simp only [Bool.and_eq_true, decide_eq_true_eq] at h4
      obtain ⟨⟨⟨⟨⟨⟨⟨⟨h5, h6⟩, h7⟩, h8⟩, h9⟩, h10⟩, h11⟩, h12⟩, h13⟩ := h4
      subst h8 h9 h11 h12
      have hx : ∃ g, q.2 = some (g, f2) := by
        rw [hq] at h13
        obtain ⟨q1, q2⟩ := q
        cases q2 with
        | none => cases h13
        | some gf =>
          obtain ⟨g, f3⟩ := gf
          have := of_decide_eq_true h13
          exact ⟨g, by rw [this]⟩
      obtain ⟨g, hx⟩ := hx
      obtain ⟨xf, hno⟩ := m4 g f2 hx
      have hv : PE (X.suite a ((a, oe) :: pn)) (.Name n2 pn2) (tVar 1) := pe_var (by show X.N[1]? = some n2; rw [hN]; exact h5) (.inl (by show X.env.scope.names.lookup _ = _; rw [hsc]; exact h6)) (okName_of h7).1 (okName_of h7).2
      have hr := pe_xf (X := X) (a := a) (oe := oe) (cls := cls) (d := d) (pn := pn) (C := A) (n := f2) (pos := pa) (by rw [hK]; exact xf) (by rw [hK]; exact hno) hz hfl hv (by rfl)
      have hc : CallR (X.suite a ((a, oe) :: pn)) (.builtin "repr") (fun xs H Q => ∃ v z u t, xs = [v] ∧ Top C z H u v ∧ biV .repr [u] = some (.val (.str t)) ∧ Q (.str t) H) := call_repr (X := X.suite a ((a, oe) :: pn)) hK hP hw hg hu
      have hcall : PE (X.suite a ((a, oe) :: pn)) (.Call (.Name "repr" py) [.Attribute (.Name n2 pn2) f2 pa] [] pc) _ := pe_callB hc (gl h10) (by show X.mg "repr" = none; rw [hmg]; exact G.bi .repr) (by decide +kernel) (pa_cons hr pa_nil) (by decide) (by decide) (by rfl) (by rfl)
      refine pss_one (PS.imp (ps_ret (pe_op op_add_str pe_str hcall)) ?_)
      rintro D σ H ⟨hs, A', dd, fs, v, t, rfl, hc', rfl, hd, hl, ⟨z, u, rp, hrp⟩, hlen, hrt⟩
      cases hc'
      exact ⟨.ref a, hs, rfl, rfl, dd, fs, v, rfl, hd, hl, v, z, u, t, rfl, .of rp, hrp, h.s, t, rfl, rfl, hlen, hrt⟩
end
end Mp
namespace Mp
open PySem PySem.Spec PyProof.Rows L2 RZ
theorem takes_len {X : Cx} {W : WX} (t : Takes X W) : Takes X (fun c d σ H => σ.length = X.N.length → W c d σ H) := by
  rintro u s' ⟨a, B, sI, pins, σ, H, cls, d, e, I, nb, up, sky, na, os, ag, w⟩
  exact t u s' ⟨a, B, sI, pins, σ, H, cls, d, e, I, nb, up, sky, na, os, ag, w I.len⟩
section
variable {C : Ctx} {P : Tb} {k : Nat} {cl : Cl} {X : Cx} {N : List Str} {sc : Scope}
theorem hds_text (G : GOk C P k cl) (hK : X.K = C.K) (hP : X.prog = C.P) (hw : X.w = C.w) (hmg : X.mg = C.mg) (hN : X.N = N) (hsc : X.env.scope = sc) (hg : X.A.guards = some []) (hu : X.A.units + 65 < cLine) : ∀ (hs : List Hd) (es : List ExceptHandler), hdsB P N sc hs es = true →
    ∃ l : List Cla, ClasOk X es l ∧ ∀ (Wo : WX) (D : Ends) (Q : VK) (cls : Value) (d : Option Addr) (σ : L2.St) (H : Hp), D.rt = Q → σ.length = N.length → hE C X.K hs cls d H Q → wCla X.K Wo D l cls d σ H
  | [], es, h => by
    cases es with
    | nil => exact ⟨[], .nil, fun Wo D Q cls d σ H _ _ q => q.elim⟩
    | cons _ _ => cases h
  | h :: hs, es, hb => by
    cases es with
    | nil => cases hb
    | cons e es =>
      simp only [hdsB, Bool.and_eq_true] at hb
      obtain ⟨l, hl, hr⟩ := hds_text G hK hP hw hmg hN hsc hg hu hs es hb.2
      obtain ⟨c, x, nm, b0, su, p1, p2, rfl, e1, e2, e3, e4⟩ := hd_text G hK hP hw hmg hN hsc hg hu hb.1
      have ec : (claOf C X.K h c).c = c := by unfold claOf; split <;> rfl
      refine ⟨claOf C X.K h c :: l, .cons (by rw [ec]; exact e2) e3 e4 hl, ?_⟩
      intro Wo D Q cls d σ H hD hlen q
      obtain ⟨c', b, q1, q2, q3, q4⟩ := q
      rw [e1] at q1; cases q1
      refine ⟨b, by rw [ec]; exact q2, fun hbt a na => ?_, fun hbf => hr Wo D Q cls d σ H hD hlen (q4 hbf)⟩
      have q5 := q3 hbt
      unfold claOf
      cases hf : h.f with
      | none =>
        rw [hf] at q5
        show D.rt _ _
        rw [hD]; exact q5
      | some f =>
        rw [hf] at q5
        obtain ⟨A, dd, fs, v, t, z1, z2, z3, z4, z5, z6, z7, z8⟩ := q5
        have h1 : 1 < σ.length := by
          rw [hlen]
          unfold claOf at e3
          rw [hf] at e3
          dsimp only at e3
          cases nm with
          | none => exact e3.elim
          | some n =>
            rw [← hN]
            exact (List.getElem?_eq_some_iff.mp e3.1).1
        exact ⟨by show (σ.set 1 _)[1]? = _; exact List.getElem?_set_self h1, A, dd, fs, v, t, z1, z2, z3, z4, z5, z6, z7, by show D.rt _ _; rw [hD]; exact z8⟩
end
end Mp

/-! MpWf: the word of a lambda. -/
namespace Mp
open PySem PySem.Spec PyProof.Rows L2 RZ
section
variable {C : Ctx} {L : Act} {W : WX} {P : Tb} {k : Nat} {cl : Cl} {A : Pl} {X : Cx}
/-- what the def makes of what it calls -/
def TTw (C : Ctx) (K : PySem.W.Frag) (w : Wd) : (XK → Hp → VK → Prop) → Hp → VK → Prop := fun tl H Q => tl (fun cls d H' => hE C K w.hs cls d H' Q) H fun _ H' => Q (.str w.fin) H'
theorem word_gives {d : Fd} {w : Wd} {sg : Scope} {g : Addr} {cdg : Value} {bg : List Stmt} {a q : Str} (G : GOk C P k cl) (hK : X.K = C.K) (hP : X.prog = C.P) (hw : X.w = C.w) (hmg : X.mg = C.mg) (hg : X.A.guards = some []) (hu : X.A.units + 100 < cLine) (Sg : FnScope d.N (d.N.take d.np) sg)
    (hb : wdB P d w sg bg = true) (ha : d.N[0]? = some a) : Takes1 X d.N d.name sg g cdg bg a q (TTw C X.K w) := by
  intro f c' s H Q tl act hc htt
  unfold wdB at hb
  split at hb
  case h_2 => cases hb
  rename_i a' p1 p2 p3 h0 hs p4 fin kf p5 p6
  simp only [Bool.and_eq_true, decide_eq_true_eq] at hb
  obtain ⟨⟨⟨⟨⟨h1, h2⟩, h3⟩, h4⟩, h5⟩, h6⟩ := hb
  rw [ha] at h2
  cases h2
  subst h5
  let Xw : Cx := (cxOf C8.CX0 X.prog X.w X.K X.mg X.base d.N d.name sg g cdg X.A X.stack s H C8.E0).nox
  have gw : Xw.A.guards = some [] := by
    show (X.A.deeper _).guards = some []
    first | exact hg | (simp [Around.deeper]; exact hg)
  have uw : Xw.A.units + 65 < cLine := by
    show X.A.units + 3 + 65 < _
    omega
  obtain ⟨l, hl, hr⟩ := hds_text (X := Xw) (N := d.N) (sc := sg) G hK hP hw hmg rfl rfl gw uw w.hs (h0 :: hs) h6
  have h0' : (L2.start d.N [V.ref f])[0]? = some (some (V.ref f)) := by simp [L2.start]
  refine ⟨_, pss_cons (ps_trys (X := Xw) (tb := fun W D σ H => ∃ Ech : XK, (∀ cls d' σ' H', σ'.length = d.N.length → Ech cls d' H' → W cls d' σ' H') ∧ σ[0]? = some (some (.ref f)) ∧ H c' = some (LamX.CodeO c' q) ∧ tl Ech H fun _ H1 => D.nx σ H1) rfl rfl Sg.nd LamX.takes0 (fun W pn xe tk _ => ?_) hl) (pss_one (ps_ret pe_str)), ?_⟩
  · constructor
    intro pins s' σ H' D I h'
    obtain ⟨Ech, hW, z1, z2, z3⟩ := h'
    have hp := act (fun c d' σ H => σ.length = d.N.length → W c d' σ H) pn xe Ech p1 p2 (takes_len tk) (fun cls d' σ' H' e hlen => hW cls d' σ' H' hlen e)
    exact (pss_one (ps_expr (pos := p3) hp)).run pins s' σ H' D I ⟨z1, z2, z3⟩
  · refine ⟨fun cls d' H' => hE C X.K w.hs cls d' H' Q, fun cls d' σ' H' hlen e => hr _ _ Q cls d' σ' H' rfl hlen e, h0', hc, htt⟩
theorem fs_lookup {z : As} {H : Hp} : ∀ {xs : List (Str × PV)} {fs : List (Str × V)} {f : Str} {v : PV}, fs.map (·.1) = xs.map (·.1) → RepL C z H (xs.map (·.2)) (fs.map (·.2)) → xs.lookup f = some v → ∃ u, fs.lookup f = some u ∧ Rep C z H v u
  | [], _, _, _, _, _, e => by cases e
  | (y, a) :: xs, [], _, _, h, _, _ => by cases h
  | (y, a) :: xs, (y2, b) :: fs, f, v, h, r, e => by
    simp only [List.map_cons, List.cons.injEq] at h
    obtain ⟨rfl, h⟩ := h
    cases r with | cons r1 r2 =>
      rw [List.lookup_cons] at e ⊢
      cases q : (f == y2) with
      | true => rw [q] at e; cases e; exact ⟨b, rfl, r1⟩
      | false => rw [q] at e; exact fs_lookup h r2 e
theorem hds_known (G : GOk C P k cl) {N : List Str} {sc : Scope} : ∀ {hs : List Hd} {es : List ExceptHandler}, hdsB P N sc hs es = true → ∀ h ∈ hs, ∃ a : Addr, C.xc h.c = some (.ref a)
  | [], _, _, h, hm => by cases hm
  | h0 :: hs, [], hb, _, _ => by cases hb
  | h0 :: hs, e :: es, hb, h, hm => by
    simp only [hdsB, Bool.and_eq_true] at hb
    rcases List.mem_cons.mp hm with rfl | hm
    · have h1 := hb.1
      unfold hdB at h1
      split at h1
      · simp only [Bool.and_eq_true, decide_eq_true_eq] at h1
        obtain ⟨q, hq, _⟩ := Option.map_eq_some_iff.mp h1.1.1.1
        obtain ⟨a, _, m2, _⟩ := G.xc h.c q hq
        exact ⟨a, m2⟩
      · cases h1
    · exact hds_known G hb.2 h hm
theorem hd_run (G : GOk C P k cl) {K : PySem.W.Frag} (hK : K = C.K) {x : Xc} {cls : Value} {d : Option Addr} {z : As} {H : Hp} (xr : XRep C z H x cls d) {Q : VK} {v : PV} : ∀ {hs : List Hd}, (∀ h ∈ hs, ∃ a : Addr, C.xc h.c = some (.ref a)) → hdGo x hs = some v → (∀ s, v = .str s → Q (.str s) H) → hE C K hs cls d H Q
  | [], _, e, _ => by cases e
  | h :: hs, kn, e, q => by
    obtain ⟨a, ha⟩ := kn h List.mem_cons_self
    unfold hdGo at e
    refine ⟨.ref a, decide (x.c = h.c), ha, by rw [hK]; exact G.xm _ _ _ _ xr.1 ha, fun hb => ?_, fun hb => ?_⟩
    · have hc := of_decide_eq_true hb
      rw [if_pos hc] at e
      cases hf : h.f with
      | none =>
        rw [hf] at e
        cases e
        exact q _ rfl
      | some f =>
        rw [hf] at e
        dsimp only at e ⊢
        cases hl : x.fs.lookup f with
        | none => rw [hl] at e; cases e
        | some u =>
          rw [hl] at e
          dsimp only at e
          have hne : x.fs ≠ [] := fun z => by rw [z] at hl; cases hl
          obtain ⟨dx, fs, hd, hx, hn, hr⟩ := xr.2 hne
          obtain ⟨w, hw, rw_⟩ := fs_lookup hn hr hl
          split at e
          · rename_i t ht
            split at e
            · rename_i hlen
              cases e
              have e1 := xr.1
              rw [hc, ha] at e1
              cases e1
              exact ⟨a, dx, fs, w, t, rfl, rfl, hd, hx, hw, ⟨z, u, rw_, ht⟩, hlen, q _ rfl⟩
            · cases e
          · cases e
    · have hc := of_decide_eq_false hb
      rw [if_neg hc] at e
      exact hd_run G hK xr (fun h' hm => kn h' (List.mem_cons_of_mem _ hm)) e q
theorem hdGo_str {x : Xc} {v : PV} : ∀ {hs : List Hd}, hdGo x hs = some v → ∃ s, v = .str s
  | [], e => by cases e
  | h :: hs, e => by
    unfold hdGo at e
    split at e
    · split at e
      · cases e; exact ⟨_, rfl⟩
      · split at e
        · split at e
          · split at e
            · cases e; exact ⟨_, rfl⟩
            · cases e
          · cases e
        · cases e
    · exact hdGo_str e
abbrev L0 : Act := ⟨[], fun _ => none, nl⟩
theorem lm_ok {scope : Scope} (o : Ok C L W k A X) (hs : LamX.LamS X.env.scope scope) {A' : Around} {outer : List Env} {s : Shared} {H : Hp} {E : XK} {f c' : Addr} (hr : Room (3 * k) (A'.deeper (LamX.lamEnv X scope s.heap.objs.size f c'))) (hg : A'.guards = some []) :
    Ok C L0 (fun cls d _ H' => E cls d H') k (lamPl A scope) (LamX.lamCx X A' outer s H E scope f c') where
  x := ⟨o.x.prog, o.x.w, o.x.K, o.x.mg, o.x.base, o.x.names, o.x.nd, rfl, rfl, hr, by
    show (A'.deeper _).guards = some []
    first | exact hg | (simp [Around.deeper]; exact hg), takes_of rfl rfl rfl rfl, passes_of (X := LamX.lamCx X A' outer s H E scope f c') rfl, o.x.gv⟩
  kind := hs.kind
  fl := fun h => by cases h
  mp := fun i _ h => by cases h
  lm := fun h => by cases h
  fr := fun h => by cases h
  cs := fun x h => by simp [lamPl] at h
theorem noArgs_def {params : Arguments} (h : noArgs params = true) (env : Env) : defaultsOf params env = ([], []) := by
  obtain ⟨a, b, c, d, e, f, g⟩ := params
  unfold noArgs at h
  simp only [Bool.and_eq_true, List.isEmpty_iff, Option.isNone_iff_eq_none] at h
  obtain ⟨⟨⟨⟨⟨⟨rfl, rfl⟩, rfl⟩, rfl⟩, rfl⟩, rfl⟩, rfl⟩ := h
  first | rfl | simp [defaultsOf]
theorem noArgs_bind {params : Arguments} {body : Expr} {scope : Scope} (h : noArgs params = true) (q : Str) (c : List (Str × Addr)) (pm cv ctv : Value) : bindArgs (PySem.W.kla_fn "<lambda>" q params body scope c pm cv ctv) ⟨[], []⟩ = pure [] := by
  obtain ⟨a, b, c, d, e, f, g⟩ := params
  unfold noArgs at h
  simp only [Bool.and_eq_true, List.isEmpty_iff, Option.isNone_iff_eq_none] at h
  obtain ⟨⟨⟨⟨⟨⟨rfl, rfl⟩, rfl⟩, rfl⟩, rfl⟩, rfl⟩, rfl⟩ := h
  rfl
/-- THE RULE: word(lambda: body) -/
theorem e_lamc {g : Nat} {d : Fd} {w : Wd} {params : Arguments} {body : Expr} {scope : Scope} {fb : Sg → Rs RV} {p lpos pos : Pos} (G : GOk C P k cl) (o : Ok C L W k A X) (hlm : A.lm = true) (hd : P.tb g = some d) (hw : d.wd = some w) (hgl : Gl X d.name) (hok : okName d.name = true)
    (hn : noArgs params = true) (hs : LamX.lamSB A.sc scope = true) (hb : ∀ (W' : WX) (X' : Cx), Ok C L0 W' k (lamPl A scope) X' → PE X' body (tOf C L0 W' fb)) :
    PE X (.Call (.Name d.name p) [.Lambda params body scope lpos] [] pos) (tOf C L W fun s => match runW w (fb (ro s)) with
      | some v => .ok (.val v) s
      | none => .no) := by
  obtain ⟨f, fd, pg, bg, sg, m, F, S, wb, B⟩ := (G.wd g d w hd hw).ex
  obtain ⟨oc, od, dV, kV, doc, pm, an, cdv, ct, osl, rfl, lk, hcd, _, _⟩ := F.ex
  obtain ⟨hr, LA, _⟩ := o.lm hlm
  obtain ⟨c, T, e1, e2, e3, e4⟩ := LA.ex
  have wb2 := wb
  unfold wdB at wb2
  split at wb2
  case h_2 => cases wb2
  rename_i a p1 p2 p3 h0 hs' p4 fin kf p5 p6
  simp only [Bool.and_eq_true, decide_eq_true_eq] at wb2
  obtain ⟨⟨⟨⟨⟨h1, h2⟩, h3⟩, h4⟩, h5⟩, h6⟩ := wb2
  have tk : d.N.take d.np = [a] := by
    rw [h1]
    cases hN : d.N with
    | nil => rw [hN] at h2; cases h2
    | cons y ys => rw [hN] at h2; cases h2; rfl
  have Ls : LamX.LamS X.env.scope scope := by rw [o.x.sc]; exact LamX.lamS_by hs
  have S1 : FnScope d.N [a] sg := by rw [← tk]; exact S
  have va : Vis sg a := by
    unfold visB at h3
    unfold Vis
    split at h3
    · exact .inl (by assumption)
    · exact .inr (.inl (by assumption))
    · exact .inr (.inr (by assumption))
    · cases h3
  have hu2 : X.A.units + 100 < cLine := by have := hr.un; omega
  refine PE.imp (pe_lam (T := C.ts) (TT := TTw C X.K w) (c := c) (P := T) (k := 3 * k) (t := fun E => tOf C L0 (fun cls d _ H' => E cls d H') fb) hgl (by rw [o.x.mg]; exact m) (by rw [o.x.K]; exact F.kp) (by rw [o.x.K]; exact lk) (by rw [o.x.K]; exact hcd) (by rw [o.x.K]; rw [← tk]; exact B) S1 h2 va
    (word_gives G o.x.K o.x.prog o.x.w o.x.mg o.x.gd hu2 S wb h2) (by rw [o.x.base, o.x.mg]; exact e2) e1 e3 e4 hr o.x.gd Ls (noArgs_def hn X.env) (fun q cl pm cv ctv => noArgs_bind hn q cl pm cv ctv) (fun A' outer s H E f c' hr' hg' => hb _ _ (lm_ok o Ls hr' hg')) (okName_of hok).1 (okName_of h4).1 (okName_of h4).2) ?_
  rintro σ H Q ⟨z, p, s, q⟩
  refine ⟨s.tb, fun H1 eN nN T1 => ?_⟩
  have k1 : ∀ a o, H a = some o → NT o → H1 a = some o := fun a o e nt => eN a o e nt.ne
  have g1 : Go C L z H p σ z H1 p σ := Go.unro s k1 nN T1
  refine ⟨fun _ => False, ro p, g1.rel.ro (L' := L0) (fun _ => False) (fun _ h => h.elim) rfl (fun _ _ => rfl), ?_⟩
  have back : ∀ {H' : Hp} {z' : As} {p' : Sg}, Go C L0 (fun _ => False) H1 (ro p) σ z' H' p' σ → Go C L z H p σ z H' p σ := fun {H' z' p'} g =>
    Go.unro s (fun a o e nt => g.stp.keep a o (k1 a o e nt) no_own nt) (fun a e => nN a (g.stp.there a e)) g.rel.tb
  dsimp only at q
  cases e5 : fb (ro p) with
  | no => rw [e5] at q; exact q.elim
  | ok r p' =>
    rw [e5] at q
    exact fun v H' z' g rr => q _ H' z (back g) (.val (.str _))
  | er x p' =>
    rw [e5] at q
    intro cls dd H' z' g xr
    dsimp only [runW] at q
    cases e6 : hdGo x w.hs with
    | none => rw [e6] at q; exact q.elim
    | some v =>
      rw [e6] at q
      exact hd_run G o.x.K xr (hds_known G h6) e6 fun t et => q _ H' z (back g) (by rw [et]; exact .val (.str t))
end
end Mp

/-! MpN1: isinstance of a class, a starred display, index, a call of a def that stands in a slot. -/
namespace Mp
open PySem PySem.Spec PyProof.Rows L2 RZ
section
variable {C : Ctx} {L : Act} {W : WX} {P : Tb} {k : Nat} {cl : Cl} {A : Pl} {X : Cx}
theorem tyB_kinds {x : PV} (h : tyName x ≠ "") : tyName x ∈ tyKinds := by
  cases x <;> first | (exact absurd rfl h) | (simp only [tyName, tyKinds]; decide)
/-- isinstance(e, z) -/
theorem e_isC {c : Nat} {q : Str × List Str × Nat} {e : Expr} {fe : Sg → Rs RV} {p1 p2 pos : Pos} (G : GOk C P k cl) (o : Ok C L W k A X) (hq : P.ic[c]? = some q) (hg : glB A.sc "isinstance" = true) (hz : glB A.sc q.1 = true) (ho : okName q.1 = true) (hs : noStar e = true)
    (h : PE X e (tOf C L W fe)) : PE X (.Call (.Name "isinstance" p1) [e, .Name q.1 p2] [] pos) (tOf C L W fun s => (fe s).bind fun r s1 => match deref s1 r with
      | some x => match isCV c x with
        | some b => .ok (.val (.bl b)) s1
        | none => .no
      | none => .no) := by
  obtain ⟨a, fI, fd, d, m1, m2, m3, m4, m5, m6, m7, _⟩ := (G.ic c q hq).ex
  refine PE.imp (pe_callB (X := X) call_isi (o.gl hg) (by rw [o.x.mg]; exact G.bi .isi) (by decide +kernel) (pa_cons h (pa_cons (pe_glob (o.gl hz) (by rw [o.x.mg]; exact m1) (show RelV (.ref a) (.ref a) from rfl) (okName_of ho).1) pa_nil) (star_cons hs _ _)) (by decide) (by decide) (star_cons hs _ _) (by rfl)) ?_
  rintro σ H Q ⟨z, p, s, q1⟩
  refine ⟨z, p, s, ?_⟩
  dsimp only at q1
  cases e1 : fe p with
  | no => rw [e1] at q1; exact q1.elim
  | er x p1 => rw [e1] at q1; exact q1
  | ok r p1 =>
    rw [e1] at q1
    intro v H1 z1 g rr
    dsimp only [Rs.bind] at q1
    cases e2 : deref p1 r with
    | none => rw [e2] at q1; exact q1.elim
    | some x =>
      rw [e2] at q1
      dsimp only at q1
      have tp := deref_top g.rel rr e2
      cases e3 : isCV c x with
      | none => rw [e3] at q1; exact q1.elim
      | some b =>
        rw [e3] at q1
        have fin := q1 _ _ _ g (.val (.bl b))
        by_cases ht : tyName x = ""
        · cases x <;> first | (simp [tyName] at ht; done) | (cases e3; done) | skip
          rename_i c' xs
          cases e3
          obtain ⟨b, A', dx, names, fv, vs, rfl, h1, h2, h3, h4, h5⟩ := tp.inss
          obtain ⟨q', hq', rfl⟩ := G.il _ _ _ h1
          obtain ⟨a', _, _, _, _, n2, n3, _, _, _, n7, _⟩ := (G.ic c' q' hq').ex
          rw [h1] at n2; cases n2
          exact ⟨.ref b, .ref a, .ref A', .ref a, _, rfl, .own a, .base (.ins h2 (by rw [o.x.K]; exact n3) (by rw [o.x.K]; exact n7.ha) (by rw [o.x.K]; exact n7.hn) (by rw [o.x.K]; exact n7.htk) (by rw [o.x.K]; exact n7.hm)), by rw [o.x.K]; exact G.kt c' c _ _ _ _ h1 m2, fin⟩
        · have eb : b = false := by cases x <;> first | (exact absurd rfl ht) | (cases e3; rfl)
          subst eb
          exact ⟨v, .ref a, .type (tyName x), .ref a, false, rfl, .own a, by rw [o.x.K]; exact tyX_of tp ht, by rw [o.x.K]; exact G.kb c _ _ _ m2 (tyB_kinds ht), fin⟩
/-- [e, .., *x] -/
theorem a_star0 {y : Expr} {yp : Pos} {fy : Sg → Rs RV} (hK : X.K = C.K) (hy : PE X y (tOf C L W fy)) : PA X [.Starred y yp] (fun σ H Q => ∃ z p, SRel C L z H p σ ∧ OutE C L W (fun z _ H _ _ (l : List PV) (v : List V) => RepL C z H l v) σ z H p Q (starG fy p)) := by
  refine PA.imp (StX.pa_star hy pa_nil) ?_
  rintro σ H Q ⟨z, p, s, q⟩
  refine ⟨z, p, s, ?_⟩
  unfold starG at q
  cases e1 : fy p with
  | no => rw [e1] at q; exact q.elim
  | er x p1 => rw [e1] at q; exact q
  | ok r p1 =>
    rw [e1] at q
    intro v H1 z1 g rr
    dsimp only [Rs.bind] at q
    cases e2 : deref p1 r with
    | none => rw [e2] at q; exact q.elim
    | some x =>
      rw [e2] at q
      dsimp only at q
      have tp := deref_top g.rel rr e2
      cases x <;> first | (exact q.elim) | skip
      · rename_i l
        obtain ⟨a, vs, rfl, sq, rp⟩ := tp.tup
        exact ⟨a, vs, rfl, .inl (by rw [hK]; exact sq), by show Q (vs ++ []) H1; rw [List.append_nil]; exact q _ _ _ g rp⟩
      · rename_i l
        obtain ⟨a, vs, rfl, sq, rp⟩ := tp.lsts
        exact ⟨a, vs, rfl, .inr (.of sq), by show Q (vs ++ []) H1; rw [List.append_nil]; exact q _ _ _ g rp⟩
theorem a_starC {e : Expr} {es : List Expr} {fa : Sg → Rs RV} {fl : Sg → Rs (List PV)} (he : PE X e (tOf C L W fa)) (hr : PA X es (fun σ H Q => ∃ z p, SRel C L z H p σ ∧ OutE C L W (fun z _ H _ _ (l : List PV) (v : List V) => RepL C z H l v) σ z H p Q (fl p)))
    (hs : starEach (e :: es) X.env = (false, eval e X.env) :: starEach es X.env) : PA X (e :: es) (fun σ H Q => ∃ z p, SRel C L z H p σ ∧ OutE C L W (fun z _ H _ _ (l : List PV) (v : List V) => RepL C z H l v) σ z H p Q ((fa p).bind fun r s1 => match r.val? with
      | some x => (fl s1).bind fun m s2 => .ok (x :: m) s2
      | none => .no)) := by
  refine PA.imp (pa_cons he hr hs) ?_
  rintro σ H Q ⟨z, p, s, q⟩
  refine ⟨z, p, s, ?_⟩
  cases e1 : fa p with
  | no => rw [e1] at q; exact q.elim
  | er x p1 => rw [e1] at q; exact q
  | ok r p1 =>
    rw [e1] at q
    intro v H1 z1 g rr
    dsimp only [Rs.bind] at q
    cases e2 : r.val? with
    | none => rw [e2] at q; exact q.elim
    | some x =>
      rw [e2] at q
      dsimp only at q
      obtain rfl := val_of e2
      refine ⟨z1, p1, g.rel, ?_⟩
      cases e3 : fl p1 with
      | no => rw [e3] at q; exact q.elim
      | er y p2 => rw [e3] at q; exact fun cls d H2 z2 g2 w => q cls d H2 z2 (g.trans s g2) w
      | ok m p2 =>
        rw [e3] at q
        intro vs H2 z2 g2 rm
        cases rr with | val rx => exact q _ _ _ (g.trans s g2) (.cons (rx.step g2.stp g.rel.mok) rm)
theorem e_lsx {xs : List Expr} {fl : Sg → Rs (List PV)} {pos : Pos} (ha : PA X xs (fun σ H Q => ∃ z p, SRel C L z H p σ ∧ OutE C L W (fun z _ H _ _ (l : List PV) (v : List V) => RepL C z H l v) σ z H p Q (fl p))) :
    PE X (.List xs pos) (tOf C L W fun s => (fl s).bind fun l s1 => if l.length ≤ line then .ok (.frs (.lst l)) s1 else .no) := by
  refine PE.imp (pe_lst ha) ?_
  rintro σ H Q ⟨z, p, s, q⟩
  refine ⟨z, p, s, ?_⟩
  dsimp only at q
  cases e1 : fl p with
  | no => rw [e1] at q; exact q.elim
  | er x p1 => rw [e1] at q; exact q
  | ok l p1 =>
    rw [e1] at q
    intro vs H1 z1 g rl
    dsimp only [Rs.bind] at q
    split at q
    · rename_i hz
      exact ⟨by rw [← rl.length]; exact hz, fun a n => (Ans.lst n rl).fin s g q⟩
    · exact q.elim
/-! ### index -/
theorem indV_at : ∀ {x : PV} {l : List PV} {n m : Nat}, indV x l n = some m → ∃ j y, m = n + j ∧ l[j]? = some y ∧ y.eqv x = true ∧ ∀ i z, i < j → l[i]? = some z → z.eqv x = false
  | x, [], _, _, e => by simp [indV] at e
  | x, y :: ys, n, m, e => by
    unfold indV at e
    split at e
    · rename_i h
      cases e
      exact ⟨0, y, rfl, rfl, h, fun i z hi => absurd hi (Nat.not_lt_zero _)⟩
    · rename_i h
      obtain ⟨j, w, e1, e2, e3, e4⟩ := indV_at e
      refine ⟨j + 1, w, by omega, by simpa using e2, e3, fun i z hi hz => ?_⟩
      cases i with
      | zero => simp at hz; subst hz; simpa using h
      | succ i => exact e4 i z (by omega) (by simpa using hz)
theorem toDs_at : ∀ {l : List PV} {i : Nat} {z : PyData}, (PV.toDs l)[i]? = some z → ∃ x, l[i]? = some x ∧ z = x.toD
  | [], _, _, e => by simp [PV.toDs] at e
  | x :: l, 0, z, e => by simp [PV.toDs] at e; exact ⟨x, rfl, e.symm⟩
  | x :: l, i + 1, z, e => by
    have e' : (PV.toDs l)[i]? = some z := by simpa [PV.toDs] using e
    obtain ⟨y, h1, h2⟩ := toDs_at e'
    exact ⟨y, by simpa using h1, h2⟩
theorem toDs_get : ∀ {l : List PV} {i : Nat} {x : PV}, l[i]? = some x → (PV.toDs l)[i]? = some x.toD
  | [], _, _, e => by simp at e
  | x :: l, 0, z, e => by simp at e; subst e; simp [PV.toDs]
  | x :: l, i + 1, z, e => by
    have e' := toDs_get (l := l) (i := i) (x := z) (by simpa using e)
    simpa [PV.toDs] using e'
theorem isdL_at {l : List PV} (h : PV.isdL l = true) : ∀ {i : Nat} {x : PV}, l[i]? = some x → x.isd = true := by
  induction l with
  | nil => intro i x e; simp at e
  | cons y l ih =>
    simp only [PV.isdL, Bool.and_eq_true] at h
    intro i x e
    cases i with
    | zero => simp at e; subst e; exact h.1
    | succ i => exact ih h.2 (by simpa using e)
theorem shaped_dat {x : PV} (h : x.dat 20 = true) : SeqAt.shaped x.toD = true := by
  unfold PV.dat at h
  simp only [Bool.and_eq_true, decide_eq_true_eq] at h
  show (x.toD.canLay0 && decide (x.toD.depth ≤ 64)) = true
  rw [canLay_toD x h.1, dep_toD x h.1, Bool.true_and]
  exact decide_eq_true (by omega)
/-- l.index(x) -/
theorem e_ind {a b : Expr} {fa fb : Sg → Rs RV} {ap cp : Pos} (o : Ok C L W k A X) (ha : PE X a (tOf C L W fa)) (hb : PE X b (tOf C L W fb)) (hl : (ap.endLine == cp.line) = true) (hbase : baseE a = true) (hs : noStar b = true) :
    PE X (.Call (.Attribute a "index" ap) [b] [] cp) (tOf C L W fun s => (fa s).bind fun x s1 => match isLstV (deref s1 x) with
    | true => (fb s1).bind fun y s2 => match indG (deref s2 x) (deref s2 y) with
      | some n => .ok (.val (.int n)) s2
      | none => .no
    | false => .no) := by
  have hu := o.x.hu
  refine PE.imp (pe_bm PySem.F.plainAttrs_list PySem.F.slot_list_index PySem.F.type_list_index (mt_indexD hu) ha (pa_cons hb pa_nil (star_cons hs _ _)) (base_rfl hbase) (by rw [star_cons hs]; rfl) hl (star_cons hs _ _) rfl) ?_
  rintro σ H Q ⟨z, p, s, q⟩
  refine ⟨z, p, s, ?_⟩
  dsimp only at q
  cases e1 : fa p with
  | no => rw [e1] at q; exact q.elim
  | er x p1 => rw [e1] at q; exact q
  | ok x p1 =>
    rw [e1] at q
    intro v H1 z1 g1 r1
    dsimp only [Rs.bind] at q
    cases e2 : deref p1 x with
    | none => rw [e2] at q; exact q.elim
    | some y =>
      rw [e2] at q
      cases y <;> first | (exact q.elim) | skip
      rename_i l
      obtain ⟨a1, vs, rfl, h1, h2⟩ := (deref_top g1.rel r1 e2).lsts
      refine ⟨.inl ⟨rfl, vs, .of h1⟩, z1, p1, g1.rel, ?_⟩
      dsimp only [isLstV] at q
      cases e3 : fb p1 with
      | no => rw [e3] at q; exact q.elim
      | er y p2 => rw [e3] at q; exact fun cls d H2 z2 g2 w => q cls d H2 z2 (g1.trans s g2) w
      | ok y p2 =>
        rw [e3] at q
        intro u H2 z2 g2 r2
        dsimp only [Rs.bind] at q
        have gg := g1.trans s g2
        have rx := r1.go g1.rel g2
        cases e4 : indG (deref p2 x) (deref p2 y) with
        | none => rw [e4] at q; exact q.elim
        | some n =>
          rw [e4] at q
          unfold indG at e4
          split at e4
          · rename_i l2 w d1 d2
            split at e4
            · rename_i hc
              simp only [Bool.and_eq_true] at hc
              obtain ⟨hd, hL⟩ := hc
              have tl := deref_top gg.rel rx d1
              have tv := deref_top g2.rel r2 d2
              unfold PV.datL at hL
              simp only [Bool.and_eq_true, decide_eq_true_eq] at hL
              have id : w.isd = true := isd_of hd
              obtain ⟨j, y', e5, e6, e7, e8⟩ := indV_at e4
              rw [Nat.zero_add] at e5
              subst e5
              have dl : PV.dat 21 (.lst l2) = true := by
                unfold PV.dat
                simp only [Bool.and_eq_true, decide_eq_true_eq]
                exact ⟨hL.1, by show PV.depL l2 + 1 ≤ 21; omega⟩
              refine ⟨a1, u, w.toD, PV.toDs l2, n, y'.toD, rfl, rfl, by rw [o.x.K]; exact tl.dp (x := .lst l2) hL.1, by rw [o.x.K]; exact tv.dp id, ?_, shaped_dat hd, toDs_get e6, ?_, fun m z' hm hz => ?_, q _ _ _ gg (.val (.int _))⟩
              · show (PyData.canLay0 (PV.toD (.lst l2)) && decide (PyData.depth (PV.toD (.lst l2)) ≤ 64)) = true
                rw [canLay_toD (.lst l2) hL.1, dep_toD (.lst l2) hL.1, Bool.true_and]
                exact decide_eq_true (by show PV.depL l2 + 1 ≤ 64; omega)
              · rw [eqv_toD y' w (isdL_at hL.1 e6) id]; exact e7
              · obtain ⟨x', q1, rfl⟩ := toDs_at hz
                rw [eqv_toD x' w (isdL_at hL.1 q1) id]; exact e8 m x' hm q1
            · cases e4
          · cases e4
/-! ### a def that stands in a slot -/
theorem e_cav {i : Nat} {x : Str} {e : Expr} {es : List Expr} {fl : Sg → Rs (List RV)} {p0 pos : Pos} (G : GOk C P k cl) (o : Ok C L W k A X) (hv : varB A i x = true) (ha : PA X (e :: es) (tOfL C L W fl)) (he : starEach (e :: es) X.env = (false, eval e X.env) :: starEach es X.env) (hpl : (backTo pos (starEach es X.env)).any (·.1) = false) : PE X (.Call (.Name x p0) (e :: es) [] pos) (tOf C L W fun s => match fnAt s i with
    | some g => (fl s).bind fun rs s1 => callG cl C.tb g rs s1
    | none => .no) := by
  have hvar := var_ok (p := p0) o hv
  refine ⟨fun pins s0 σ H Q I ⟨z, p, s, q⟩ => ?_⟩
  dsimp only at q
  cases ef : fnAt p i with
  | none => rw [ef] at q; exact q.elim
  | some g =>
    rw [ef] at q
    have ep : p[i]? = some (.pv (.fn g)) := by
      unfold fnAt at ef
      split at ef
      · rename_i g' e; cases ef; exact e
      · cases ef
    obtain ⟨v, hs, hr⟩ := s.pv i _ ep
    cases hr with
    | fn eg =>
      obtain ⟨d, hd, hne⟩ := G.gn g v eg
      obtain ⟨f, m1, m2⟩ := G.fn g d hd hne
      rw [eg] at m2
      cases m2
      obtain ⟨f', fd, hm, hk, F, hnp, B⟩ := (G.df g d hd hne).ex
      rw [m1] at hm
      cases hm
      apply wpAny_Call_Name_kw
      apply thn (hvar.run pins s0 σ H (fun v H1 => v = .ref f ∧ H1 = H) I ⟨.ref f, hs, rfl, rfl⟩)
      rintro u s1 ⟨v, H1, I1, r1, rfl, eH⟩
      rw [eH] at I1
      obtain rfl : u = Value.ref f := r1
      refine PySem.W.callWith_K (h₀ := X.base) I1.ok.mod.kin (by rw [o.x.K]; exact hk) (thn (ha.run pos pins s1 σ H (fun vs H1 => ∃ z1 p1 rs, Go C L z H p σ z1 H1 p1 σ ∧ RRepL C z1 H H1 p1 σ rs vs ∧ OutE C L W (RRep C) σ z H p Q (callG cl C.tb g rs p1)) I1 ⟨z, p, s, ?_⟩) fun us s2 ⟨vs, H1, I2, r, z1, p1, rs, g1, rr, q1⟩ => ⟨I2.kIn, ?_⟩) he hpl
      · cases e1 : fl p with
        | no => rw [e1] at q; exact q.elim
        | er y p1 => rw [e1] at q; exact q
        | ok rs p1 =>
          rw [e1] at q
          exact fun vs H1 z1 g1 rr => ⟨z1, p1, rs, g1, rr, q⟩
      · exact call_run o.x (by rw [G.tb]; exact hd) F hnp B s g1 rr I2 r q1
end
end Mp

/-! MpN2: an instance is made. -/
namespace Mp
open PySem PySem.Spec PyProof.Rows L2 RZ
theorem argS_nobor {s : Sg} : ∀ {k : Nat} {rs : List RV} {as : Sg}, argSlots s [] k rs = some as → bors rs = []
  | _, [], _, _ => rfl
  | k, r :: rs, as, e => by
    unfold argSlots at e
    cases q : argSlots s [] (k + 1) rs with
    | none => rw [q] at e; cases e
    | some l =>
      rw [q] at e
      have ih := argS_nobor q
      cases r with
      | val x => exact ih
      | frs x => exact ih
      | bor i => simp at e
theorem give_nobor : ∀ {rs : List RV} {as s : Sg}, bors rs = [] → giveBack rs as s = s
  | [], _, _, _ => by unfold giveBack; rfl
  | r :: rs, [], _, _ => by cases r <;> (unfold giveBack; rfl)
  | r :: rs, a :: as, s, h => by
    cases r with
    | val x => unfold giveBack; exact give_nobor h
    | frs x => unfold giveBack; exact give_nobor h
    | bor i => simp [bors] at h
section
variable {C : Ctx} {L : Act} {W : WX} {P : Tb} {k : Nat} {cl : Cl} {A : Pl} {X : Cx}
theorem mk_run {c : Nat} {q : Str × List Str × Nat} {z z1 : As} {H H1 : Hp} {p p1 : Sg} {σ : L2.St} {rs : List RV} {vs : List V} {us : List Value} {Q : VK} {pins : List (Addr × Obj)} {s1 : Shared} {a fI : Addr} {fd : FuncData} {d : Fd} {names : List Str} (x : XOk C W k X A.N A.sc) (hr : Room (3 * k + 1) X.A) (hd : C.tb q.2.2 = some d)
    (m2 : C.ic c = some (a, names)) (M : Mk C.K a fI) (F : FnG C k fI fd (d.N.take d.np) (spOf C cl q.2.2 d)) (hnp : (d.N.take d.np).length = d.np) (B : L2.Binds C.K fd (d.N.take d.np) [])
    (s : SRel C L z H p σ) (g1 : Go C L z H p σ z1 H1 p1 σ) (rr : RRepL C z1 H H1 p1 σ rs vs) (I : Inv X pins σ H1 s1) (r : Vals vs us)
    (h : OutE C L W (RRep C) σ z H p Q (mkG cl C.tb c q.2.2 rs p1)) : wpAny (model X.prog X.w) X.A (call (.ref a) us) (EP X pins σ Q) X.xe s1 := by
  unfold mkG at h
  rw [hd] at h
  dsimp only at h
  split at h
  case isFalse => exact h.elim
  rename_i hc
  obtain ⟨hl, hmp⟩ := hc
  cases ea : argSlots p1 [] 1 rs with
  | none => rw [ea] at h; exact h.elim
  | some asl =>
    rw [ea] at h
    dsimp only at h
    have x0 := x
    have tk := x.tk
    have gd := x.gd
    have hK := x.K
    have nx : H1 (s1.heap.objs.size + 1) = none := I.hok.fresh (Nat.le_succ _)
    have nd : H1 s1.heap.objs.size = none := I.hok.fresh (Nat.le_refl _)
    have I2 := Inv.made (C := a) I
    generalize hx : s1.heap.objs.size + 1 = ax at *
    generalize hdx : s1.heap.objs.size = dx at *
    have ne : dx ≠ ax := by omega
    have nx2 : upd H1 dx (.own ax) ax = none := by rw [upd_ne (Ne.symm ne)]; exact nx
    have g0a : Go C L z1 H1 p1 σ z1 (upd H1 dx (.own ax)) p1 σ := (Go.refl g1.rel).ext (upd_keep nd)
    have g0 : Go C L z1 H1 p1 σ (fun b => z1 b ∨ b = ax) (upd (upd H1 dx (.own ax)) ax (.ins a dx [])) p1 σ := g0a.more g1.rel nx2
    have gg := g1.trans s g0
    have rr2 : RRepL C (fun b => z1 b ∨ b = ax) H (upd (upd H1 dx (.own ax)) ax (.ins a dx [])) p1 σ rs vs := rr.go g1.rel g0
    have no1 : ¬ Own p1 σ ax := by
      rintro ⟨i, t, y, e1, e2⟩
      obtain ⟨b, o, h1, _, h3, _⟩ := g1.rel.ow i t y e1
      rw [e2] at h1; cases h1
      rw [nx] at h3; cases h3
    have tp : Top C (fun b => z1 b ∨ b = ax) (upd (upd H1 dx (.own ax)) ax (.ins a dx [])) (.ins c []) (.ref ax) :=
      .ins m2 upd_same (by rw [upd_ne ne, upd_same]) ⟨fun i f v e1 e2 => by simp at e2, Nat.le_refl _⟩ .nil
    have rF : RRep C (fun b => z1 b ∨ b = ax) H (upd (upd H1 dx (.own ax)) ax (.ins a dx [])) p1 σ (.frs (.ins c [])) (.ref ax) :=
      .frs (g1.stp.there _ nx) (.inr rfl) no1 upd_same True.intro tp
    have rrF : RRepL C (fun b => z1 b ∨ b = ax) H (upd (upd H1 dx (.own ax)) ax (.ins a dx [])) p1 σ (.frs (.ins c []) :: rs) (.ref ax :: vs) := by
      refine .cons rF rr2 fun y b e1 e2 => ?_
      cases e1
      cases e2
      rintro ⟨i, y', e3, e4⟩
      obtain ⟨v, e5, e6⟩ := rr.at e3
      rw [e4] at e5; cases e5
      cases e6 with | frs _ _ _ q4 _ _ => rw [nx] at q4; cases q4
    have eaF : argSlots p1 [] 0 (.frs (.ins c []) :: rs) = some (.own false (.ins c []) :: asl) := by
      unfold argSlots
      rw [ea]
    have ndF : (bors (RV.frs (.ins c []) :: rs)).Nodup := by
      have := argS_nobor eaF
      rw [this]; exact List.nodup_nil
    have l2 := rr.length
    have l1 := argSlots_len ea
    have sa := args_rel gg.rel rrF ndF eaF (ds := []) (dvs := []) .nil
    have hsp : spOf C cl q.2.2 d (V.ref ax :: vs) (upd (upd H1 dx (.own ax)) ax (.ins a dx [])) (fun v H2 => v = .non ∧ Q (.ref ax) H2) (fun cls dd H' => W cls dd σ H') := by
      refine ⟨_, .own false (.ins c []) :: asl, ?_, ?_, by simpa using sa, ?_⟩
      · rw [List.length_cons]; omega
      · rw [List.length_cons]; omega
      · cases ec : cl q.2.2 (.own false (.ins c []) :: asl) with
        | no => rw [ec] at h; exact h
        | er e as' =>
          rw [ec] at h
          intro cls dd H' z' g2 xr
          obtain ⟨g3, og⟩ := go_call s gg rrF ndF eaF (ds := []) (dvs := []) .nil (by simpa using g2)
          rw [give_nobor (argS_nobor eaF)] at g3
          exact h cls dd H' z' g3 xr
        | ok rv as' =>
          rw [ec] at h
          intro v H' z' g2 rr3
          obtain ⟨g3, og⟩ := go_call s gg rrF ndF eaF (ds := []) (dvs := []) .nil (by simpa using g2)
          rw [give_nobor (argS_nobor eaF)] at g3
          split at h
          · rename_i w t c' xs tl hw
            cases hw
            split at h
            · rename_i hcc
              subst hcc
              cases rr3 with
              | val hv =>
                cases hv
                refine ⟨rfl, h _ _ _ g3 ?_⟩
                obtain ⟨b, o, q1, q2, q3, q4, q5, _⟩ := g2.rel.ow 0 t (.ins c' xs) rfl
                cases q1
                exact .frs (g1.stp.there _ nx) q2 no1 q3 q4 q5
            · exact h.elim
          · rename_i hq; cases hq
          · exact h.elim
    have r2 : Vals (V.ref ax :: vs) (Value.ref ax :: us) := .cons rfl r
    have lu : (Value.ref ax :: us).length = (d.N.take d.np).length := by rw [← r2.length]; exact F.len _ _ _ _ hsp
    have xp := x.prog
    have xw := x.w
    have xm := x.mg
    have xb := x.base
    clear x x0
    rcases X with ⟨PP, w, K, mg, base, AA, N', s0, H0', env, outer, stack, ex, fn, calm, pn, xe⟩
    dsimp only at xp xw hK xm xb
    subst xp xw hK xm xb
    subst hx hdx
    refine wpAny_call (make_map (f := fI) I.kIn M.makes M.init (beq_iff_eq.mp M.fn) (codeAny_mono (F.run _ stack _ _ ⟨Value.ref (s1.heap.objs.size + 1) :: us, []⟩ (Value.ref (s1.heap.objs.size + 1) :: us) _ _ _ (hr.make a us []) ?_ (I2.env0.make a us []) (by have := B _ (Value.ref (s1.heap.objs.size + 1) :: us) I2.kIn (by simpa using lu); simpa using this) r2 hsp) fun res s' hq => ?_))
    · show (AA.under _).guards = some []
      first | exact gd | (simp [Around.under]; exact gd)
    · cases res with
      | error e => exact tk _ _ (XE.of_call I2 (fun cls dd H' h => h) hq)
      | ok fl =>
        cases fl with
        | ret u =>
          obtain ⟨v, H', I3, rv, ev, q3⟩ := I2.after hq
          subst ev
          exact ⟨rv, ⟨V.ref (s1.heap.objs.size + 1), H', I3, rfl, q3⟩⟩
        | next => exact False.elim hq
        | brk => exact False.elim hq
        | cont => exact False.elim hq
/-- C(e, ..) -/
theorem e_mk {c : Nat} {q : Str × List Str × Nat} {e : Expr} {es : List Expr} {fl : Sg → Rs (List RV)} {p0 pos : Pos} (G : GOk C P k cl) (o : Ok C L W k A X) (hfc : A.fc = true) (hq : P.ic[c]? = some q) (hg : glB A.sc q.1 = true) (hok : okName q.1 = true)
    (ha : PA X (e :: es) (tOfL C L W fl)) (he : starEach (e :: es) X.env = (false, eval e X.env) :: starEach es X.env) (hpl : (backTo pos (starEach es X.env)).any (·.1) = false) :
    PE X (.Call (.Name q.1 p0) (e :: es) [] pos) (tOf C L W fun s => (fl s).bind fun rs s1 => mkG cl C.tb c q.2.2 rs s1) := by
  refine ⟨fun pins s0 σ H Q I ⟨z, p, s, h⟩ => ?_⟩
  obtain ⟨a, fI, fd, d, m1, m2, m3, m4, M, m6, m7, hd, F, hnp, B⟩ := (G.ic c q hq).ex
  refine wpAny_Call_Name_kw (ld_glob I (o.gl hg) (by rw [o.x.mg]; exact m1) ?_ (okName_of hok).1)
  refine PySem.W.callWith_K (h₀ := X.base) I.ok.mod.kin (by rw [o.x.K]; exact M.kp) (thn (ha.run pos pins s0 σ H (fun vs H1 => ∃ z1 p1 rs, Go C L z H p σ z1 H1 p1 σ ∧ RRepL C z1 H H1 p1 σ rs vs ∧ OutE C L W (RRep C) σ z H p Q (mkG cl C.tb c q.2.2 rs p1)) I ⟨z, p, s, ?_⟩) fun us s1 ⟨vs, H1, I1, r, z1, p1, rs, g1, rr, q1⟩ => ⟨I1.kIn, ?_⟩) he hpl
  · dsimp only at h
    cases e1 : fl p with
    | no => rw [e1] at h; exact h
    | er y p1 => rw [e1] at h; exact h
    | ok rs p1 =>
      rw [e1] at h
      exact fun vs H1 z1 g1 rr => ⟨z1, p1, rs, g1, rr, h⟩
  · exact mk_run o.x ((o.fr hfc).mono (by omega)) (by rw [G.tb]; exact hd) m2 M F hnp B s g1 rr I1 r q1
/-! ### fields are written -/
theorem putF_flds {names : List Str} {fv : List (Str × V)} {vs : List V} {f : Str} {y : V} {j : Nat} (h : Flds names fv vs) (nd : names.Nodup) (hf : names[j]? = some f) (hj : j < vs.length) : Flds names (putF f y fv) (vs.set j y) := by
  refine ⟨fun i g v h1 h2 => ?_, ?_⟩
  · rw [lookup_putF]
    by_cases hi : j = i
    · subst hi
      rw [hf] at h1; cases h1
      rw [List.getElem?_set_self hj] at h2; cases h2
      rw [if_pos rfl]
    · rw [List.getElem?_set_ne hi] at h2
      have ne : g ≠ f := fun q => by
        subst q
        have l1 := (List.getElem?_eq_some_iff.mp h1).1
        have l2 := (List.getElem?_eq_some_iff.mp hf).1
        have e1 := (List.getElem?_eq_some_iff.mp h1).2
        have e2 := (List.getElem?_eq_some_iff.mp hf).2
        exact hi ((List.getElem_inj nd).mp (e2.trans e1.symm))
      rw [if_neg ne]
      exact h.1 i g v h1 h2
  · rw [List.length_set]
    have hl : (putF f y fv).length = fv.length ∨ (putF f y fv).length = fv.length + 1 := by
      have := length_putF f y fv
      clear h
      induction fv with
      | nil => exact .inr rfl
      | cons p r ih =>
        unfold putF
        by_cases e : p.1 = f
        · rw [if_pos e]; exact .inl rfl
        · rw [if_neg e]
          rcases ih (length_putF f y r) with ih | ih
          · exact .inl (by simp [ih])
          · exact .inr (by simp [ih])
    have := h.2
    have hin : (putF f y fv).length = fv.length := by
      obtain ⟨w, hw⟩ : ∃ w, vs[j]? = some w := ⟨_, List.getElem?_eq_getElem hj⟩
      have hlk := h.1 j f w hf hw
      clear hl this h
      induction fv with
      | nil => simp at hlk
      | cons p r ih =>
        obtain ⟨g, x⟩ := p
        unfold putF
        by_cases e : g = f
        · rw [if_pos e]; rfl
        · rw [if_neg e]
          have e' : (f == g) = false := by simpa using fun q => e q.symm
          rw [List.lookup_cons, e'] at hlk
          rw [List.length_cons, List.length_cons, ih hlk]
    omega
/-- a field of an own instance is written -/
theorem setFd_go {z0 : As} {H0 : Hp} {p0 : Sg} {σ0 σ : L2.St} {z : As} {H : Hp} {p p' : Sg} {i c j : Nat} {v : PV} {y : V} {f : Str} {a : Addr} {names : List Str} (s0 : SRel C L z0 H0 p0 σ0) (g : Go C L z0 H0 p0 σ0 z H p σ) (hic : C.ic c = some (a, names)) (nd : names.Nodup) (hf : names[j]? = some f) (h : setFd p i c j v = some p') (rv : Rep C z H v y) :
    ∃ (b dx : Addr) (fv : List (Str × V)), σ[i]? = some (some (.ref b)) ∧ H b = some (.ins a dx fv) ∧ fv.length < 1000 ∧ Go C L z0 H0 p0 σ0 z (upd H b (.ins a dx (putF f y fv))) p' σ := by
  unfold setFd at h
  split at h
  case h_2 => cases h
  rename_i t c' xs e
  split at h
  case isFalse => cases h
  rename_i hc
  obtain ⟨rfl, hlen⟩ := hc
  obtain ⟨b, o, q1, q2, q3, q4, q5, q6⟩ := g.rel.ow i t _ e
  obtain ⟨b', A', dx, names', fv, vs, eb, h1, h2, h3, h4, h5⟩ := q5.inss
  cases eb
  rw [hic] at h1; cases h1
  have lv := h5.length
  have lf := h4.2
  have st := put_stp (o' := .ins a dx (putF f y fv)) q2 h2 True.intro
  have hd2 : upd H b (.ins a dx (putF f y fv)) dx = some (.own b) := by
    rw [upd_ne fun e => by rw [e, h2] at h3; cases h3]; exact h3
  refine ⟨b, dx, fv, q1, h2, by omega, ?_⟩
  split at h
  · rename_i hj
    cases h
    exact g.mutO s0 e q1 h2 True.intro True.intro (.ins hic upd_same hd2 (h4.add nd (by rw [← lv, hj]; exact hf)) ((h5.step st.1 st.2).append (.cons (rv.step st.1 st.2) .nil)))
  · split at h
    · rename_i hj
      cases h
      exact g.mutO s0 e q1 h2 True.intro True.intro (.ins hic upd_same hd2 (putF_flds h4 nd hf (by omega)) (RepL.set j (rv.step st.1 st.2) (h5.step st.1 st.2)))
    · cases h
end
end Mp

/-! MpN3: fields are written: statements. -/
namespace Mp
open PySem PySem.Spec PyProof.Rows L2 RZ
section
variable {C : Ctx} {L : Act} {W : WX} {P : Tb} {k : Nat} {cl : Cl} {A : Pl} {X : Cx}
theorem sw_attr {v o : Expr} {f : Str} {p : Pos} {l : Nat} {env : Env} : swapsWith v (some (.Attribute o f p)) l env = pure false := by cases v <;> rfl
theorem sole_none2 {e t : Expr} (h : noComp e = true) (l : Nat) (env : Env) : swapsWithSole [t] e l env = pure false := swaps_none h _ _ _
theorem s_stf {i c j : Nat} {q : Str × List Str × Nat} {f x : Str} {v : Expr} {fe : Sg → Rs RV} {p1 p2 pos : Pos} (G : GOk C P k cl) (o : Ok C L W k A X) (hq : P.ic[c]? = some q) (hf : q.2.1[j]? = some f) (hv : varB A i x = true) (h : PE X v (tOf C L W fe)) :
    PS X (.Assign [.Attribute (.Name x p1) f p2] v pos) (tOfS C L W fun s => toSs (fe s) fun r s1 => match valOf r with
      | some v => match setFd s1 i c j v with
        | some s2 => .nx s2
        | none => .no
      | none => .no) := by
  obtain ⟨a, fI, fd, d, m1, m2, m3, m4, M, m6, m7, _⟩ := (G.ic c q hq).ex
  refine PS.imp (ps_fld (var_ok o hv) h sw_attr) ?_
  rintro D σ H ⟨z, p, s, h1⟩
  refine ⟨z, p, s, ?_⟩
  dsimp only at h1
  cases e1 : fe p with
  | no => rw [e1] at h1; exact h1.elim
  | er x p1 => rw [e1] at h1; exact fun cls d H1 z1 g xr => h1 cls d σ H1 z1 g xr
  | ok r p1 =>
    rw [e1] at h1
    dsimp only [toSs] at h1
    intro y H1 z1 g rr
    cases e2 : valOf r with
    | none => rw [e2] at h1; exact h1.elim
    | some w =>
      rw [e2] at h1
      dsimp only at h1
      cases e3 : setFd p1 i c j w with
      | none => rw [e3] at h1; exact h1.elim
      | some p2 =>
        rw [e3] at h1
        obtain ⟨F, hF, rv⟩ := val_less rr e2
        have g2 := g.less s F hF
        obtain ⟨b, dx, fv, n1, n2, n3, n4⟩ := setFd_go s g2 m2 m6 hf e3 rv
        exact ⟨.ref b, n1, b, a, dx, fv, rfl, n2, by rw [o.x.K]; exact m3, by rw [o.x.K]; exact m4 f (List.mem_of_getElem? hf), n3, h1 σ _ _ n4⟩
/-- targets that are fields -/
def attrsB (P : Tb) (A : Pl) (i c : Nat) : List Nat → List Expr → Bool
  | [], [] => true
  | j :: js, e :: es => (match e with
    | .Attribute (.Name x _) f _ => varB A i x && (match P.ic[c]? with
      | some q => decide (q.2.1[j]? = some f)
      | none => false)
    | _ => false) && attrsB P A i c js es
  | _, _ => false
def gsF (C : Ctx) (L : Act) (i c : Nat) (js : List Nat) : TGs := fun vs σ H Q => ∃ z p xs, SRel C L z H p σ ∧ RepL C z H xs vs ∧ match setFds i c js xs p with
  | some p' => ∀ H', Go C L z H p σ z H' p' σ → Q σ H'
  | none => False
theorem gs_attr {i c : Nat} {q : Str × List Str × Nat} (G : GOk C P k cl) (o : Ok C L W k A X) (hq : P.ic[c]? = some q) : ∀ {js : List Nat} {es : List Expr}, attrsB P A i c js es = true → PGs X es (gsF C L i c js) ∧ es.length = js.length ∧ es.all noStar = true
  | [], [], _ => by
    have h : PGs X [] gNil := pgs_nil
    refine ⟨⟨fun pins s0 σ H vs us Q I r h1 => h.run pins s0 σ H vs us Q I r ?_⟩, rfl, rfl⟩
    obtain ⟨z, p, xs, s, rp, h2⟩ := h1
    cases xs with
    | nil => cases rp; exact ⟨rfl, h2 _ (.refl s)⟩
    | cons => exact h2.elim
  | [], _ :: _, h => by simp [attrsB] at h
  | _ :: _, [], h => by simp [attrsB] at h
  | j :: js, e :: es, h => by
    obtain ⟨a, fI, fd, d, m1, m2, m3, m4, M, m6, m7, _⟩ := (G.ic c q hq).ex
    simp only [attrsB, Bool.and_eq_true] at h
    obtain ⟨h1, h2⟩ := h
    obtain ⟨i1, i2, i3⟩ := gs_attr G o hq h2
    split at h1
    · rename_i x px f pf
      rw [hq] at h1
      simp only [Bool.and_eq_true, decide_eq_true_eq] at h1
      obtain ⟨hv, hf⟩ := h1
      have hc := pgs_cons (pg_fld (f := f) (pos := pf) (var_ok (p := px) o hv)) i1 (by rw [asE_cons (by rfl)]; rfl)
      refine ⟨⟨fun pins s0 σ H vs us Q I r h3 => hc.run pins s0 σ H vs us Q I r ?_⟩, by simp [i2], by simp [i3, noStar]⟩
      obtain ⟨z, p, xs, s, rp, h4⟩ := h3
      cases rp with
      | nil => exact h4.elim
      | @cons w y ws vs rw_ rws =>
        unfold setFds at h4
        cases e1 : setFd p i c j w with
        | none => rw [e1] at h4; exact h4.elim
        | some p1 =>
          rw [e1] at h4
          obtain ⟨b, dx, fv, n1, n2, n3, n4⟩ := setFd_go s (.refl s) m2 m6 hf e1 rw_
          refine ⟨y, vs, rfl, .ref b, n1, b, a, dx, fv, rfl, n2, by rw [o.x.K]; exact m3, by rw [o.x.K]; exact m4 f (List.mem_of_getElem? hf), n3, z, p1, ws, n4.rel, rws.step n4.stp s.mok, ?_⟩
          dsimp only at h4
          cases e2 : setFds i c js ws p1 with
          | none => rw [e2] at h4; exact h4.elim
          | some p2 =>
            rw [e2] at h4
            exact fun H' g' => h4 H' (n4.trans s g')
    · cases h1
theorem setFds_len {i c : Nat} : ∀ {js : List Nat} {xs : List PV} {p p' : Sg}, setFds i c js xs p = some p' → xs.length = js.length
  | [], [], _, _, _ => rfl
  | [], _ :: _, _, _, e => by simp [setFds] at e
  | _ :: _, [], _, _, e => by simp [setFds] at e
  | j :: js, x :: xs, p, p', e => by
    unfold setFds at e
    split at e
    · rename_i p1 _; simp [setFds_len e]
    · cases e
theorem s_stp {i c : Nat} {js : List Nat} {q : Str × List Str × Nat} {ts : List Expr} {v : Expr} {fe : Sg → Rs RV} {kk : Nat} {p2 pos : Pos} (G : GOk C P k cl) (o : Ok C L W k A X) (hq : P.ic[c]? = some q) (ht : attrsB P A i c js ts = true) (hn : noComp v = true) (hst : swappedStores [.Tuple ts kk p2] v X.env = pure none) (h : PE X v (tOf C L W fe)) :
    PS X (.Assign [.Tuple ts kk p2] v pos) (tOfS C L W fun s => toSs (fe s) fun r s1 => match r with
      | .val (.tup vs) => match setFds i c js vs s1 with
        | some s2 => .nx s2
        | none => .no
      | _ => .no) := by
  obtain ⟨t1, t2, t3⟩ := gs_attr G o hq ht
  have hg := pg_tup (n := js.length) (k := kk) (pos := p2) o.x.calm t1 (by rw [asE_len, t2]) (asE_none _ _ t3)
  refine PS.imp (ps_asg h hg (sole_none2 hn _ _) hst rfl) ?_
  rintro D σ H ⟨z, p, s, h1⟩
  refine ⟨z, p, s, ?_⟩
  dsimp only at h1
  cases e1 : fe p with
  | no => rw [e1] at h1; exact h1.elim
  | er x p1 => rw [e1] at h1; exact fun cls d H1 z1 g xr => h1 cls d σ H1 z1 g xr
  | ok r p1 =>
    rw [e1] at h1
    dsimp only [toSs] at h1
    intro y H1 z1 g rr
    split at h1
    · rename_i vs
      cases rr with
      | val hv =>
        cases hv with
        | @tup a _ us sq rl =>
          cases e3 : setFds i c js vs p1 with
          | none => rw [e3] at h1; exact h1.elim
          | some p2 =>
            rw [e3] at h1
            refine ⟨a, us, rfl, by rw [o.x.K]; exact sq, by rw [← rl.length]; exact setFds_len e3, z1, p1, vs, g.rel, rl, ?_⟩
            rw [e3]
            exact fun H' g' => h1 σ H' z1 (g.trans s g')
    · exact h1.elim
end
end Mp

/-! MpN4: sorted by a def of the text that gives ints. -/
namespace Mp
open PySem PySem.Spec PyProof.Rows L2 RZ
section
variable {prog : Program} {w : World} {A : Around} {E : Value → Shared → Prop} {s : Shared} {cp ks : Addr} {items : List Value} {got : Array Value} {n0 n1 : Nat} {R : PySem.Fin → Shared → Prop}
/-- the heap at the end of the sort -/
abbrev endHp (h : Heap) (ks cp : Addr) (out : Array Value) : Heap := (h.update ks (Obj.mapSeq fun _ => (#[] : Array Value))).update cp (Obj.mapSeq fun _ => out)
theorem srt_tail {st : SortSt} (hk : s.heap.get? ks = some (seqObj "list" got n0)) (hc : s.heap.get? cp = some (seqObj "list" #[] n1)) (ne : ks ≠ cp) (hg : got.size ≤ sizeLine) (ho : (arrOf st).size ≤ sizeLine) (hf : failedOf st = none)
    (q : ∀ tk n2, (endHp s.heap ks cp ((arrOf st).map (·.2))).get? cp = some (seqObj "list" ((arrOf st).map (·.2)) n2) → R (.done (.ret .none)) { s with heap := endHp s.heap ks cp ((arrOf st).map (·.2)), toks := tk }) :
    wpAny (model prog w) A (ksk_tail cp false n1 (.ref ks) st) R E s := by
  have b1 := Heap.SameBut.update s.heap ks (Obj.mapSeq fun _ => (#[] : Array Value))
  have hc1 : (s.heap.update ks (Obj.mapSeq fun _ => (#[] : Array Value))).get? cp = some (seqObj "list" #[] n1) := (b1.2 cp (Ne.symm ne)).trans hc
  obtain ⟨n2, hn2⟩ : ∃ n2, (endHp s.heap ks cp ((arrOf st).map (·.2))).get? cp = some (seqObj "list" ((arrOf st).map (·.2)) n2) := ⟨_, get?_update_seq hc1 fun _ => (arrOf st).map (·.2)⟩
  unfold ksk_tail
  dsimp only
  refine wpAny_bind (listUpdate_at hk rfl ?_ hg (Nat.zero_le _))
  refine wpAny_bind (wpAny_letGo ?_)
  refine wpAny_bind (seqEpoch_at hc1 rfl ?_)
  refine wpAny_bind (listUpdate_at hc1 rfl ?_ (Nat.zero_le _) (by simpa using Nat.le_succ_of_le ho))
  rw [hf]
  simp only [bne_self_eq_false, Bool.false_eq_true, if_false]
  exact wpAny_pure (q _ n2 hn2)
theorem srt_end {is : List Int} (hk : s.heap.get? ks = some (seqObj "list" got n0)) (hc : s.heap.get? cp = some (seqObj "list" #[] n1)) (ne : ks ≠ cp) (hi : IntsAre got.toList is) (hl : is.length = items.length) (h64 : items.length < 64)
    (q : ∀ tk n2 (out : Array Value), KskOut false is items out.toList → (endHp s.heap ks cp out).get? cp = some (seqObj "list" out n2) → R (.done (.ret .none)) { s with heap := endHp s.heap ks cp out, toks := tk }) :
    wpAny (model prog w) A (ksk_end cp false items.toArray n1 (.ref ks) got) R E s := by
  have hg : got.size = items.length := by
    have := hi.length
    rw [Array.length_toList] at this
    omega
  have hz : (got.zip items.toArray).size = items.length := by rw [Array.size_zip, hg, List.size_toArray, Nat.min_self]
  have hle : items.length ≤ sizeLine := by rw [sizeLine_eq]; omega
  unfold ksk_end
  dsimp only
  simp only [Bool.false_eq_true, if_false]
  by_cases h2 : items.toArray.size < 2
  · rw [if_pos h2, if_pos h2]
    refine wpAny_bind (wpAny_pure ?_)
    rw [StateT.run_pure]
    refine wpAny_bind (wpAny_pure ?_)
    try dsimp only
    have hs : SortedTo (arrOf (SortSt.mk' general' (got.zip items.toArray) #[] 7 none)) (arrOf (SortSt.mk' general' (got.zip items.toArray) #[] 7 none)).size := by
      intro i j hij hj
      have hj2 : j < (got.zip items.toArray).size := hj
      rw [hz] at hj2
      rw [List.size_toArray] at h2
      have : i = j := by omega
      subst this
      exact Int.le_refl _
    exact srt_tail (st := SortSt.mk' general' (got.zip items.toArray) #[] 7 none) hk hc ne (by omega) (by show (got.zip items.toArray).size ≤ _; omega) rfl fun tk n2 hn => q tk n2 _ (ksk_out (b := false) (xs := arrOf (SortSt.mk' general' (got.zip items.toArray) #[] 7 none)) hi (Array.Perm.refl _) hs) hn
  · rw [if_neg h2, if_neg h2]
    rw [List.size_toArray] at h2
    rw [ksk_kind hi (by rw [hg]; omega)]
    refine wpAny_bind (wpAny_pure ?_)
    refine wpAny_bind (wpAny_mono (wpS_sortRuns (a₀ := got.zip items.toArray) (st := SortSt.mk' oneType' (got.zip items.toArray) #[] 7 none)
      (Q := fun _ st' => (arrOf st').Perm (got.zip items.toArray) ∧ failedOf st' = none ∧ SortedTo (arrOf st') (got.zip items.toArray).size)
      (ksk_intKeys hi) ⟨Array.Perm.refl _, rfl, rfl, rfl⟩ (by rw [hz]; omega) (by rw [hz]; exact h64) fun st' a1 a2 a3 => ⟨a1, a2, a3⟩) ?_ fun _ _ e => e)
    rintro ⟨⟨⟩, st'⟩ s' ⟨rfl, hp, hf, hs⟩
    try dsimp only
    refine srt_tail hk hc ne (by omega) (by rw [hp.size_eq]; omega) hf fun tk n2 hn => q tk n2 _ ?_ hn
    exact ksk_out (b := false) hi hp (by rw [hp.size_eq]; exact hs)
end
/-! ### the keys -/
/-- the keys of these, one call after the other -/
def KeysR (sp : Sp) : List V → Hp → (List Int → Hp → Prop) → Prop
  | [], H, q => q [] H
  | x :: xs, H, q => sp [x] H (fun v H1 => ∃ i, v = .int i ∧ KeysR sp xs H1 fun is H2 => q (i :: is) H2) fun _ _ _ => False
section
variable {C : Ctx} {L : Act} {W : WX} {P : Tb} {k : Nat} {cl : Cl} {A : Pl} {X : Cx}
theorem kyr_read {g : Nat} {d : Fd} {all l : List PV} {av xs : List V} {is : List Int} {s0 : Sg} {z z1 : As} {H H1 : Hp} {p p1 : Sg} {σ : L2.St} {q : List Int → Hp → Prop} (hd : C.tb g = some d) (h1 : d.np = 1) (hdf : d.dfl = []) (s : SRel C L z H p σ) (g1 : Go C L z H p σ z1 H1 p1 σ) (ra : RepL C z1 H1 all av) (rl : RepL C z1 H1 l xs) (e : keysG cl C.tb g l s0 = some is)
    (h : ∀ z2 H2, Go C L z H p σ z2 H2 p1 σ → RepL C z2 H2 all av → q is H2) : KeysR (spOf C cl g d) xs H1 q := by
  induction l generalizing xs is z1 H1 q with
  | nil => cases rl; unfold keysG at e; cases e; exact h _ _ g1 ra
  | cons x l ih =>
    cases rl with
    | @cons _ v _ vs rx rxs =>
      unfold keysG at e
      unfold callG at e
      rw [hd] at e
      dsimp only at e
      rw [if_pos ⟨by rw [h1]; simp, by rw [h1, hdf]; simp, by simp [bors]⟩] at e
      have ea : ∀ s0 : Sg, argSlots s0 d.mp 0 [.val x] = some [.pv x] := fun s0 => by unfold argSlots; unfold argSlots; rfl
      rw [ea s0] at e
      dsimp only at e
      rw [hdf] at e
      simp only [List.drop_nil, List.map_nil, List.append_nil] at e
      have rr : RRepL C z1 H H1 p1 σ [.val x] [v] := .cons (.val rx) .nil (fun y b e1 => by cases e1)
      have sa := args_rel g1.rel rr (by simp [bors]) (ea p1) (ds := []) (dvs := []) .nil
      refine ⟨z1, [.pv x], h1.symm, h1.symm, by simpa using sa, ?_⟩
      cases ec : cl g [.pv x] with
      | no => rw [ec] at e; cases e
      | er y as' => rw [ec] at e; cases e
      | ok r as' =>
        rw [ec] at e
        dsimp only at e
        by_cases hb : isBor r = true
        · rw [if_pos hb] at e; cases e
        · rw [if_neg hb] at e
          split at e
          · rename_i i p2 hr
            cases hr
            cases e3 : keysG cl C.tb g l s0 with
            | none => rw [e3] at e; cases e
            | some js =>
              rw [e3] at e
              cases e
              intro v' H' z' g2 rv
              obtain ⟨g3, _⟩ := go_call s g1 rr (by simp [bors]) (ea p1) (ds := []) (dvs := []) .nil (by simpa using g2)
              have g3' : Go C L z H p σ z' H' p1 σ := by
                rw [give_nobor (by simp [bors])] at g3; exact g3
              have m : MOk (Own [Slot.pv x] ([v].map some)) z1 H1 := by simpa using sa.mok
              cases rv with
              | val hv =>
                cases hv
                exact ⟨i, rfl, ih g3' (ra.step g2.stp m) (rxs.step g2.stp m) e3 h⟩
          · cases e
/-! ### what comes out -/
theorem insK_perm (x : PV × Int) : ∀ l : List (PV × Int), (insK x l).Perm (x :: l)
  | [] => .refl _
  | y :: r => by
    unfold insK
    split
    · exact .refl _
    · exact ((insK_perm x r).cons y).trans (.swap x y r)
theorem isortK_perm : ∀ l : List (PV × Int), (isortK l).Perm l
  | [] => .refl _
  | x :: r => (insK_perm x (isortK r)).trans ((isortK_perm r).cons x)
theorem ascK_pw : ∀ l : List (PV × Int), ascK l = true → l.Pairwise (fun a b => a.2 < b.2)
  | [], _ => .nil
  | [x], _ => by simp
  | x :: y :: r, h => by
    simp only [ascK, Bool.and_eq_true, decide_eq_true_eq] at h
    have ih := ascK_pw (y :: r) h.2
    refine .cons (fun z hz => ?_) ih
    rcases List.mem_cons.mp hz with rfl | hz
    · exact h.1
    · exact Int.lt_trans h.1 ((List.pairwise_cons.mp ih).1 z hz)
theorem asc_uniq : ∀ {l m : List (PV × Int)}, l.Pairwise (fun a b => a.2 < b.2) → m.Pairwise (fun a b => a.2 ≤ b.2) → m.Perm l → m = l
  | [], m, _, _, p => p.eq_nil
  | x :: l, [], _, _, p => by have := p.length_eq; simp at this
  | x :: l, y :: m, hl, hm, p => by
    have hy : y ∈ x :: l := p.mem_iff.mp List.mem_cons_self
    have hx : x ∈ y :: m := p.mem_iff.mpr List.mem_cons_self
    have exy : y = x := by
      rcases List.mem_cons.mp hy with e | hy
      · exact e
      · have h1 := (List.pairwise_cons.mp hl).1 y hy
        rcases List.mem_cons.mp hx with e | hx
        · exact e.symm
        · have h2 := (List.pairwise_cons.mp hm).1 x hx
          omega
    subst exy
    rw [asc_uniq (List.pairwise_cons.mp hl).2 (List.pairwise_cons.mp hm).2 ((List.perm_cons y).mp p)]
/-- items, keys, their places, their values -/
structure Quad where
  x : PV
  v : V
  i : Int
  u : Value
def quads : List PV → List V → List Int → List Value → List Quad
  | x :: xs, v :: vs, i :: is, u :: us => ⟨x, v, i, u⟩ :: quads xs vs is us
  | _, _, _, _ => []
theorem quads_x : ∀ {xs : List PV} {vs : List V} {is : List Int} {us : List Value}, xs.length = vs.length → is.length = xs.length → us.length = xs.length → (quads xs vs is us).map (fun t => (t.x, t.i)) = xs.zip is ∧ (quads xs vs is us).map (fun t => (t.i, t.u)) = is.zip us ∧ (quads xs vs is us).map (·.v) = vs
  | [], [], [], [], _, _, _ => ⟨rfl, rfl, rfl⟩
  | x :: xs, v :: vs, i :: is, u :: us, h1, h2, h3 => by
    obtain ⟨a, b, c⟩ := quads_x (xs := xs) (vs := vs) (is := is) (us := us) (by simpa using h1) (by simpa using h2) (by simpa using h3)
    refine ⟨?_, ?_, ?_⟩
    · show (x, i) :: _ = (x, i) :: _; rw [a]; rfl
    · show (i, u) :: _ = (i, u) :: _; rw [b]; rfl
    · show v :: _ = v :: _; rw [c]
  | [], _ :: _, _, _, h1, _, _ => by simp at h1
  | _ :: _, [], _, _, h1, _, _ => by simp at h1
  | [], [], _ :: _, _, _, h2, _ => by simp at h2
  | _ :: _, _ :: _, [], _, _, h2, _ => by simp at h2
  | [], [], [], _ :: _, _, _, h3 => by simp at h3
  | _ :: _, _ :: _, _ :: _, [], _, _, h3 => by simp at h3
theorem quads_ok {z : As} {H : Hp} : ∀ {xs : List PV} {vs : List V} {is : List Int} {us : List Value}, RepL C z H xs vs → Vals vs us → ∀ t ∈ quads xs vs is us, Rep C z H t.x t.v ∧ RelV t.v t.u
  | [], _, _, _, _, _, t, ht => by simp [quads] at ht
  | x :: xs, _, [], _, r, v, t, ht => by cases r; simp [quads] at ht
  | x :: xs, _, i :: is, _, r, v, t, ht => by
    cases r with
    | cons r1 r2 =>
      cases v with
      | cons v1 v2 =>
        unfold quads at ht
        rcases List.mem_cons.mp ht with rfl | ht
        · exact ⟨r1, v1⟩
        · exact quads_ok r2 v2 t ht
theorem out_read {z : As} {H : Hp} {l ys : List PV} {xs : List V} {is : List Int} {us out : List Value} (rl : RepL C z H l xs) (rv : Vals xs us) (hi : is.length = l.length) (hs : srtK l is = some ys) (ho : KskOut false is us out) : ∃ ws : List V, Vals ws out ∧ RepL C z H ys ws ∧ ws.length = xs.length := by
  obtain ⟨ps, p1, rfl, p3⟩ := ho
  have l1 := rl.length
  have l2 := rv.length
  obtain ⟨q1, q2, q3⟩ := quads_x (xs := l) (vs := xs) (is := is) (us := us) l1 hi (by omega)
  have ok := quads_ok (is := is) rl rv
  obtain ⟨T, t1, t2⟩ := perm_lift (fun t : Quad => (t.i, t.u)) p1 _ q2
  have okT : ∀ t ∈ T, Rep C z H t.x t.v ∧ RelV t.v t.u := fun t ht => ok t (t1.mem_iff.mp ht)
  unfold srtK at hs
  split at hs
  · rename_i hc
    cases hs
    have e1 : T.map (fun t => (t.x, t.i)) = isortK (l.zip is) := by
      refine asc_uniq (ascK_pw _ hc.2) ?_ ?_
      · rw [← t2, List.pairwise_map] at p3
        rw [List.pairwise_map]
        exact p3.imp fun h => by simpa using h
      · refine (t1.map _).trans ?_
        rw [q1]
        exact (isortK_perm _).symm
    refine ⟨T.map (·.v), ?_, ?_, ?_⟩
    · have e : ps.map Prod.snd = T.map (·.u) := by rw [← t2, List.map_map]; rfl
      rw [e]
      exact vals_maps (fun t : Quad => t.v) (fun t => t.u) T fun t ht => (okT t ht).2
    · rw [← e1, List.map_map]
      clear e1 t1 t2 p1 p3
      induction T with
      | nil => exact .nil
      | cons t T ih => exact .cons (okT t List.mem_cons_self).1 (ih fun t ht => okT t (List.mem_cons_of_mem _ ht))
    · have := congrArg List.length q3
      rw [List.length_map] at this
      rw [List.length_map, t1.length_eq]; exact this
  · cases hs
end
section
variable {C : Ctx} {k : Nat} {X : Cx} {f : Addr} {fd : FuncData} {nm : Str} {sp : Sp}
/-- sorted(xs, key=f) -/
def rSrt (X : Cx) (f : Addr) (sp : Sp) : List V → List V → Hp → VK → Prop := fun vs zs H Q => ∃ (a : Addr) (xs : List V), vs = [.ref a] ∧ zs = [.ref f] ∧ SqL X.K H a xs ∧ xs.length < 64 ∧
  KeysR sp xs H fun is H2 => is.length = xs.length → ∀ (us out : List Value) (p : Addr), Vals xs us → KskOut false is us out → ∃ ws : List V, Vals ws out ∧ ws.length = xs.length ∧ (H2 p = none → Q (.ref p) (upd H2 p (.lst ws)))
theorem cr_srt (hP : X.prog = C.P) (hw : X.w = C.w) (hK : X.K = C.K) (hmg : X.mg = C.mg) (hb : X.base = C.base) (hr : Room (3 * k + 2) X.A) (hg : X.A.guards = some []) (F : FnG C k f fd [nm] sp) (B : L2.Binds C.K fd [nm] []) : CallRK X (.builtin "sorted") [Str.ofString "key"] (rSrt X f sp) := by
  intro pins s σ H vs zs us ws Q I rv rz h
  obtain ⟨a, xs, rfl, rfl, sq, h64, kr⟩ := h
  obtain rfl := Vals.ref1 rv
  obtain rfl := Vals.ref1 rz
  obtain ⟨its, rx, hl, hz⟩ := I.list sq
  have lx := rx.length
  have hL : its.length ≤ sizeLine := by rw [← lx]; exact hz
  show wpAny (model X.prog X.w) X.A (call (.builtin "sorted") [.ref a] [(Str.ofString "key", .ref f)]) (EP X pins σ Q) X.xe s
  refine PySem.W.sorted_of_sort hl.isList hL (PyProof.Rows.ksk_s1 _ _) (fun _ => PyProof.Rows.ksk_l1 _ _) fun E' => ?_
  rw [PyProof.Rows.ksk_t1]
  have ho : (PySem.W.copyHeap s.heap its).get? (s.heap.objs.size + 1) = some (seqObj "list" its.toArray 0) := PySem.W.copyHeap_at s.heap its
  generalize hcp : s.heap.objs.size + 1 = cp at ho ⊢
  have hcs : s.heap.objs.size ≤ cp := by omega
  obtain ⟨n1, ho1⟩ : ∃ n1, ((PySem.W.copyHeap s.heap its).update cp (Obj.mapSeq fun _ => (#[] : Array Value))).get? cp = some (seqObj "list" #[] n1) := ⟨_, get?_update_seq ho fun _ => #[]⟩
  have hcl : cp < (PySem.W.copyHeap s.heap its).objs.size := Heap.lt_size ho
  have hkS : (((PySem.W.copyHeap s.heap its).update cp (Obj.mapSeq fun _ => (#[] : Array Value))).push (seqObj "tuple" its.toArray 0)).objs.size = (PySem.W.copyHeap s.heap its).objs.size + 1 := by rw [size_push', Heap.size_update]
  unfold ksk_tree
  refine wpAny_bind (listItems_at ho rfl ?_)
  refine wpAny_bind (listUpdate_at ho rfl ?_ (by rw [List.size_toArray]; exact hL) (Nat.zero_le _))
  refine wpAny_bind (seqEpoch_at ho1 rfl ?_)
  refine wpAny_bind (wpAny_newTuple ?_ (by show its.length ≤ _; exact hL))
  refine wpAny_bind (wpAny_newList ?_ (Nat.zero_le _))
  refine wpAny_holding ?_
  have kp : ∀ b o, s.heap.get? b = some o → (PySem.W.sortingHeap (PySem.W.copyHeap s.heap its) cp its).get? b = some o := fun b o e =>
    PySem.W.sortingHeap_old (Nat.ne_of_lt (Nat.lt_of_lt_of_le (Heap.lt_size e) hcs)) (PySem.W.copyHeap_old e)
  have gk : (PySem.W.sortingHeap (PySem.W.copyHeap s.heap its) cp its).get? (((PySem.W.copyHeap s.heap its).update cp (Obj.mapSeq fun _ => (#[] : Array Value))).push (seqObj "tuple" its.toArray 0)).objs.size = some (seqObj "list" #[] 0) := Heap.get?_push_size _ rfl
  have gc : (PySem.W.sortingHeap (PySem.W.copyHeap s.heap its) cp its).get? cp = some (seqObj "list" #[] n1) := Heap.get?_push_of_some _ (Heap.get?_push_of_some _ ho1)
  generalize hks : (((PySem.W.copyHeap s.heap its).update cp (Obj.mapSeq fun _ => (#[] : Array Value))).push (seqObj "tuple" its.toArray 0)).objs.size = ks at gk ⊢
  have ne : ks ≠ cp := by omega
  have hss : s.heap.objs.size ≤ ks := by omega
  have lessPins : ∀ {H' : Hp} {s' : Shared} {more : List (Addr × Obj)}, Inv X (more ++ pins) σ H' s' → Inv X pins σ H' s' := fun {H' s' more} J => J.pins_of fun p hp => J.pin p (List.mem_append_right _ (List.mem_append_right _ hp))
  have fin : ∀ {H' : Hp} {s' : Shared} {got : Array Value} {n0 : Nat}, Inv X pins σ H' s' → H' ks = none → H' cp = none → s'.heap.get? ks = some (seqObj "list" got n0) → s'.heap.get? cp = some (seqObj "list" #[] n1) → Inv X ([(ks, seqObj "list" got n0), (cp, seqObj "list" #[] n1)] ++ pins) σ H' s' := fun {H' s' got n0} J e1 e2 e3 e4 => by
    have f1 := I.fpOk hss e1
    have f2 := I.fpOk hcs e2
    refine J.pins_of fun p hp => ?_
    rcases List.mem_append.mp hp with hp | hp
    · rcases List.mem_cons.mp hp with rfl | hp
      · exact ⟨e3, e1, f1.2.1, f1.2.2.1, fun v z => by cases z⟩
      · rw [List.mem_singleton.mp hp]
        exact ⟨e4, e2, f2.2.1, f2.2.2.1, fun v z => by cases z⟩
    · exact J.pin p (List.mem_append_right _ hp)
  have turn : ∀ {H' : Hp} {s' : Shared} {h' : Heap} {tk : Nat} {it : Addr}, Inv X pins σ H' s' → H' it = none → s.heap.objs.size ≤ it → (∀ b o, b ≠ it → s'.heap.get? b = some o → h'.get? b = some o) → Inv X pins σ H' { s' with heap := h', toks := tk } := fun {H' s' h' tk it} J e1 hi kk => by
    have f1 := I.fpOk hi e1
    exact J.turned kk e1 f1.2.1 f1.2.2.2.1 f1.2.2.2.2.1 f1.2.2.2.2.2
  have pk : ∀ {H' : Hp} {s' : Shared} {got : Array Value} {n0 : Nat}, Inv X ([(ks, seqObj "list" got n0), (cp, seqObj "list" #[] n1)] ++ pins) σ H' s' → (s'.heap.get? ks = some (seqObj "list" got n0) ∧ H' ks = none) ∧ (s'.heap.get? cp = some (seqObj "list" #[] n1) ∧ H' cp = none) := fun {H' s' got n0} J => by
    have a1 := J.pin (ks, seqObj "list" got n0) (List.mem_append_right _ (List.mem_append_left _ List.mem_cons_self))
    have a2 := J.pin (cp, seqObj "list" #[] n1) (List.mem_append_right _ (List.mem_append_left _ (List.mem_cons_of_mem _ List.mem_cons_self)))
    exact ⟨⟨a1.1, a1.2.1⟩, ⟨a2.1, a2.2.1⟩⟩
  have I1 : Inv X pins σ H { s with heap := PySem.W.sortingHeap (PySem.W.copyHeap s.heap its) cp its, toks := s.toks } := I.kept kp
  have one : ∀ {H' : Hp} {s' : Shared} {ps : List (Addr × Obj)} {v : V} {u : Value} {Qk : VK}, Inv X ps σ H' s' → RelV v u → sp [v] H' Qk (fun _ _ _ => False) → wpAny (model X.prog X.w) X.A.in1.in1 (call (.ref f) [u]) (EP X ps σ Qk) (fun _ _ => False) s' := fun {H' s' ps v u Qk} J r hsp => by
    have en := J.env0.in1.in1
    have bt := B s' [u] (by rw [← hK]; exact J.kIn) rfl
    rw [hP, hw, hK, hmg, hb] at en
    have cr := F.run X.A.in1.in1 X.stack s' H' ⟨[u], []⟩ [u] [v] Qk (fun _ _ _ => False) (Room.in1 (Room.in1 hr)) hg en bt (.cons r .nil) hsp
    rw [← hP, ← hw] at cr
    refine wpAny_call (codeAny_mono cr fun res s2 hq => ?_)
    cases res with
    | error e =>
      obtain ⟨_, _, _, _, _, _, _, _, _, _, _, _, q⟩ := hq
      exact q.elim
    | ok fl =>
      cases fl with
      | ret y => exact J.after hq
      | next => exact False.elim hq
      | brk => exact False.elim hq
      | cont => exact False.elim hq
  unfold ksk_rest
  refine wpAny_bind (wpAny_rule ?_)
  first
    | rw [List.forIn_toArray]
    | (rw [← Array.forIn_toList]; simp only [List.toList_toArray])
    | rw [← Array.forIn_toList]
  refine wpAny_bind (ksk_fold (fun i s' => ∃ (H' : Hp) (got : Array Value) (n0 : Nat) (is : List Int), Inv X ([(ks, seqObj "list" got n0), (cp, seqObj "list" #[] n1)] ++ pins) σ H' s' ∧ IntsAre got.toList is ∧ is.length = i ∧
    KeysR sp (xs.drop i) H' fun js H2 => (is ++ js).length = xs.length → ∀ (us out : List Value) (p : Addr), Vals xs us → KskOut false (is ++ js) us out → ∃ ws : List V, Vals ws out ∧ ws.length = xs.length ∧ (H2 p = none → Q (.ref p) (upd H2 p (.lst ws)))) its 0 _
    ⟨H, #[], 0, [], fin I1 (I.hok.fresh hss) (I.hok.fresh hcs) gk gc, .nil, rfl, by simpa using kr⟩ ?step ?done)
  case step =>
    rintro j x s' hx ⟨H', got, n0, is, J, hi, hlen, kk⟩
    rw [Nat.zero_add] at hlen kk ⊢
    have hj : j < xs.length := by rw [lx]; exact (List.getElem?_eq_some_iff.mp hx).1
    have ed : xs.drop j = xs[j] :: xs.drop (j + 1) := List.drop_eq_getElem_cons hj
    obtain ⟨u, hu, ru⟩ := rx.get (List.getElem?_eq_getElem hj)
    rw [hx] at hu
    cases hu
    rw [ed] at kk
    unfold KeysR at kk
    refine wpAny_bind (wpAny_attempt (wpAny_mono (one J ru kk) (fun v s2 he => ?_) fun _ _ hF => hF.elim))
    obtain ⟨w, H2, J2, rw2, i, rfl, kk2⟩ := he
    obtain ⟨t2, rfl⟩ := rw2
    obtain ⟨⟨p1, p2⟩, ⟨p3, p4⟩⟩ := pk J2
    have hgz : got.size = j := by
      have := hi.length
      rw [Array.length_toList] at this
      omega
    try dsimp only
    have b1 := Heap.SameBut.update s2.heap ks (Obj.mapSeq (·.push (.int i t2)))
    obtain ⟨c2, hc2⟩ : ∃ c2, (s2.heap.update ks (Obj.mapSeq (·.push (.int i t2)))).get? ks = some (seqObj "list" (got.push (.int i t2)) c2) := ⟨_, get?_update_seq p1 (·.push (.int i t2))⟩
    refine wpAny_bind (listUpdate_at p1 rfl ?_ (by rw [hgz]; omega) (Nat.le_trans (Nat.le_of_eq (Array.size_push ..)) (by rw [hgz]; omega)))
    refine wpAny_pure ⟨rfl, H2, got.push (.int i t2), c2, is ++ [i], fin (turn (tk := s2.toks) (lessPins J2) p2 hss fun b o hb e => (b1.2 b hb).trans e) p2 p4 hc2 ((b1.2 cp (Ne.symm ne)).trans p3), by
      have ea : (got.push (Value.int i t2)).toList = got.toList ++ [Value.int i t2] := by simp
      rw [ea]; exact ksk_snoc hi, by simp [hlen], ?_⟩
    have e9 : ∀ js, is ++ [i] ++ js = is ++ i :: js := fun js => by simp
    simp only [e9]
    exact kk2
  case done =>
    rintro s' ⟨H', got, n0, is, J, hi, hlen, kk⟩
    rw [Nat.zero_add] at hlen kk
    rw [List.drop_of_length_le (by omega)] at kk
    unfold KeysR at kk
    rw [List.append_nil] at kk
    obtain ⟨⟨p1, p2⟩, ⟨p3, p4⟩⟩ := pk J
    have J0 := lessPins J
    try dsimp only
    refine wpAny_bind (listItems_at p1 rfl ?_)
    refine srt_end p1 p3 ne hi hlen (by omega) fun tk n2 out ho hc2 => ⟨rfl, ?_⟩
    obtain ⟨ws, w1, w2, w3⟩ := kk (by omega) its out.toList cp rx ho
    have b1 := Heap.SameBut.update s'.heap ks (Obj.mapSeq fun _ => (#[] : Array Value))
    have b2 := Heap.SameBut.update (s'.heap.update ks (Obj.mapSeq fun _ => (#[] : Array Value))) cp (Obj.mapSeq fun _ => out)
    have J1 := turn (tk := tk) (h' := s'.heap.update ks (Obj.mapSeq fun _ => (#[] : Array Value))) J0 p2 hss fun b o hb e => (b1.2 b hb).trans e
    have J2 := J1.take (t' := tk) (it := cp) (o := .lst ws) (h' := endHp s'.heap ks cp out) (fun b o hb e => (b2.2 b hb).trans e) (I.fpOk hcs p4) ⟨by rw [w2]; exact hz, out.toList, n2, w1, hc2⟩
    exact ⟨.ref cp, _, J2, rfl, w3 p4⟩
end
section
variable {C : Ctx} {L : Act} {W : WX} {P : Tb} {k : Nat} {cl : Cl} {A : Pl} {X : Cx}
/-- sorted(e, key=z) -/
theorem e_srk {g : Nat} {d : Fd} {e : Expr} {fe : Sg → Rs RV} {p1 p2 p3 pos : Pos} (G : GOk C P k cl) (o : Ok C L W k A X) (hfc : A.fc = true) (hd : P.tb g = some d) (hnp : d.np = 1) (hdf : d.dfl = []) (hgs : glB A.sc "sorted" = true) (hz : glB A.sc d.name = true) (hok : okName d.name = true) (hs : noStar e = true)
    (h : PE X e (tOf C L W fe)) : PE X (.Call (.Name "sorted" p1) [e] [⟨some "key", .Name d.name p2, p3⟩] pos) (tOf C L W fun s => (fe s).bind fun r s1 => match deref s1 r with
    | some (.lst l) => match keysG cl C.tb g l (ro s1) with
      | some is => match srtK l is with
        | some ys => .ok (.frs (.lst ys)) s1
        | none => .no
      | none => .no
    | _ => .no) := by
  have hne : d.name ≠ "" := okName_ne hok
  obtain ⟨f, fd, m1, hk, F, hN, B⟩ := (G.df g d hd hne).ex
  have hd' : C.tb g = some d := by rw [G.tb]; exact hd
  obtain ⟨nm, hnm⟩ : ∃ nm, d.N.take d.np = [nm] := by
    rw [hnp] at hN ⊢
    match hh : d.N.take 1, hN with
    | [a], _ => exact ⟨a, rfl⟩
  have B1 : L2.Binds C.K fd [nm] [] := by
    obtain ⟨dvs, ds, q1, _, q2, q3⟩ := B 1 (by omega) (by omega)
    have : dvs = [] := List.length_eq_zero_iff.mp (by omega)
    subst this
    cases q2
    rw [hnm] at q3
    exact q3
  rw [hnm] at F
  refine PE.imp (pe_callBK (X := X) (cr_srt o.x.prog o.x.w o.x.K o.x.mg o.x.base (o.fr hfc) o.x.gd F B1) (o.gl hgs) (by rw [o.x.mg]; exact G.bi .srt) (by decide +kernel) (pa_cons h pa_nil (star_cons hs _ _)) (pk_cons (pe_glob (o.gl hz) (by rw [o.x.mg]; exact m1) (show RelV (.ref f) (.ref f) from rfl) (okName_of hok).1) pk_nil) (by decide) (by decide) (by rw [star_cons hs]; rfl) (by rw [star_cons hs]; rfl) rfl rfl rfl) ?_
  rintro σ H Q ⟨z, p, s, q⟩
  refine ⟨z, p, s, ?_⟩
  dsimp only at q
  cases e1 : fe p with
  | no => rw [e1] at q; exact q.elim
  | er x p1 => rw [e1] at q; exact q
  | ok r p1 =>
    rw [e1] at q
    intro v H1 z1 g1 r1
    dsimp only [Rs.bind] at q
    cases e2 : deref p1 r with
    | none => rw [e2] at q; exact q.elim
    | some y =>
      rw [e2] at q
      cases y <;> first | (exact q.elim) | skip
      rename_i l
      dsimp only at q
      cases e3 : keysG cl C.tb g l (ro p1) with
      | none => rw [e3] at q; exact q.elim
      | some is =>
        rw [e3] at q
        dsimp only at q
        cases e4 : srtK l is with
        | none => rw [e4] at q; exact q.elim
        | some ys =>
          rw [e4] at q
          obtain ⟨a, vs, rfl, h1, h2⟩ := (deref_top g1.rel r1 e2).lsts
          have hl : l.length < 64 := by
            unfold srtK at e4
            split at e4
            · rename_i hc; exact hc.1
            · cases e4
          have lv := h2.length
          refine ⟨a, vs, rfl, rfl, .of h1, by omega, ?_⟩
          refine kyr_read hd' hnp hdf s g1 h2 h2 e3 fun z2 H2 g2 ra hlen us out pp hv ho => ?_
          obtain ⟨ws, w1, w2, w3⟩ := out_read ra hv (by omega) e4 ho
          exact ⟨ws, w1, w3, fun n => (Ans.lst n w2).fin s g2 q⟩
end
end Mp

/-! MpN5: a list comprehension whose item may lean on the maker's own state (closures are called in it). -/
namespace Mp
open PySem PySem.Spec PyProof.Rows L2 RZ
section
variable {X : Cx}
/-- the reading: at most n turns, W what stands ahead of the i-th one -/
def rLcI (wi : TI) (g : TG) (te : TE) (own : List Nat) (n : Nat) : TE := fun σ H Q => wi σ H fun J H1 => ∀ D, H1 D = none → ∃ W : Nat → Hp → Prop, W 0 (upd H1 D (.lst [])) ∧ ∀ i Hi, W i Hi →
  (J.stop i Hi ∧ Q (.ref D) Hi) ∨ (i < n ∧ J.go i Hi ∧ ∀ x Hx, J.yld i Hi x Hx → g x (wipe σ own) Hx fun σ2 H2 => wipe σ2 own = wipe σ own ∧
    te σ2 H2 fun y H4 => ∃ acc, H4 D = some (.lst acc) ∧ acc.length < sizeLine ∧ W (i + 1) (upd H4 D (.lst (acc ++ [y]))))
theorem lcI_run {pins : List (Addr × Obj)} {s : Shared} {σ : L2.St} {H : Hp} {Q : VK} {elt tg iter : Expr} {scope : Scope} {own : List (Str × Nat)} {pos : Pos} {wi : TI} {g : TG} {te : TE} {n : Nat}
    (hcalm : X.calm = true) (hnd : X.N.Nodup) (I : Inv X pins σ H s) (hsrc : PI X tg iter wi) (hblk : BlkOk X.N X.env.scope scope own) (htg : ∀ s0 H0 C0 cl fp, PG (X.blk s0 H0 scope (compEnvC scope cl C0 X.env) fp) tg g)
    (helt : ∀ s0 H0 C0 cl fp, Inv X pins σ H0 s0 → (∀ b ∈ fp, FpOk X pins H0 b) → PE (X.blk s0 H0 scope (compEnvC scope cl C0 X.env) fp) elt te) (hset : ∀ x, foldedSetIterable iter X.env x = pure x)
    (h : rLcI wi g te (own.map (·.2)) n σ H Q) : wpAny (model X.prog X.w) X.A (eval (.ListComp elt [⟨tg, iter, [], 0⟩] scope pos) X.env) (EP X pins σ Q) X.xe s := by
  have caught : ∀ y ∈ scope.names, y.2 = .free → ∃ c, X.env.cells.lookup y.1 = some c := fun y hy e => (hblk.free y hy e).elim (fun k => I.ok.has _ (.inl k)) fun k => I.ok.has _ (.inr k)
  rw [eval_ListComp]
  -- the source, its iterator
  refine wpAny_comprehension_free rfl hset (closure_ok caught) hblk.kind (fun y hy e => (hblk.uniq y hy).trans (congrArg some e)) (thn (hsrc.run pins s σ H _ I h) fun _ _ hx => thn hx fun _ sI hI => ?_)
  obtain ⟨it, fp, tn, J, HI, rfl, II, T, st, fpI, q⟩ := hI
  refine wpAny_newObj_type (newEnv_comp ?_) (Nat.zero_le _)
  -- the list that is made
  have nD : HI sI.heap.objs.size = none := II.hok.fresh (Nat.le_refl _)
  obtain ⟨W, w0, turns⟩ := q _ nD
  have IL : Inv X pins σ (upd HI sI.heap.objs.size (.lst [])) { sI with heap := sI.heap.push { cls := .type "list", data := .seq ([] : List Value).toArray }, toks := sI.toks } :=
    II.laid (fun b o e => Heap.get?_push_of_some _ e) (Nat.le_refl _) ⟨Nat.zero_le _, [], 0, .nil, Heap.get?_push_size _ rfl⟩
  have old : ∀ b ∈ fp, b < sI.heap.objs.size := fun b hb => let ⟨_, e, _⟩ := T.obj _ _ st b hb; Heap.lt_size e
  generalize sI.heap.objs.size = D at nD w0 IL old turns ⊢
  have fpL : ∀ b ∈ fp, FpOk X pins (upd HI D (.lst [])) b := fun b hb => ⟨by rw [upd_ne (Nat.ne_of_lt (old b hb))]; exact (fpI b hb).1, (fpI b hb).2⟩
  have stL : tn 0 (sI.heap.push { cls := .type "list", data := .seq ([] : List Value).toArray }) := T.keep _ _ _ st fun b _ o e => Heap.get?_push_of_some _ e
  have inL : ∀ b ∈ fp, b < (sI.heap.push { cls := .type "list", data := .seq ([] : List Value).toArray }).objs.size := fun b hb => let ⟨_, e, _⟩ := T.obj _ _ stL b hb; Heap.lt_size e
  generalize upd HI D (.lst []) = HL at w0 IL fpL
  generalize hsL : ({ sI with heap := sI.heap.push { cls := .type "list", data := .seq ([] : List Value).toArray }, toks := sI.toks } : Shared) = sL at IL ⊢
  have heL : sL.heap = sI.heap.push { cls := .type "list", data := .seq ([] : List Value).toArray } := by rw [← hsL]
  rw [← heL] at stL inL
  -- the block
  have IB := block_start IL hblk hnd fun b hb => ⟨fpL b hb, inL b hb⟩
  have elt1 := fun cl C0 => helt sL HL C0 cl fp IL fpL
  have tg1 := fun cl C0 => htg sL HL C0 cl fp
  have stB : tn 0 (pushCells (sL.heap.push { cls := .type "dict", data := .dict #[] }) scope.names) := T.keep _ _ _ stL fun b _ o e => pushCells_keeps _ _ _ _ (Heap.get?_push_of_some _ e)
  have elt2 := elt1 (cellsFrom (sL.heap.objs.size + 1) scope.names (cloFrom X.env.cells scope.names [])) sL.heap.objs.size
  have tg2 := tg1 (cellsFrom (sL.heap.objs.size + 1) scope.names (cloFrom X.env.cells scope.names [])) sL.heap.objs.size
  show codeAny _ _ (.compStart (.ListComp elt [⟨tg, iter, [], 0⟩] scope pos) 0 (.ref it) (.ref D) (compEnvC scope (cellsFrom (sL.heap.objs.size + 1) scope.names (cloFrom X.env.cells scope.names [])) sL.heap.objs.size X.env)) (compPost (model X.prog X.w) X.A X.xe none (EP X pins σ Q) (.ref D) sL.heap.objs.size) { sL with heap := pushCells (sL.heap.push { cls := .type "dict", data := .dict #[] }) scope.names }
  generalize he : compEnvC scope (cellsFrom (sL.heap.objs.size + 1) scope.names (cloFrom X.env.cells scope.names [])) sL.heap.objs.size X.env = eB at IB elt2 tg2 ⊢
  have hloc : eB.locals = sL.heap.objs.size := by rw [← he]; rfl
  have fpB : ∀ {σ' : L2.St} {H' : Hp} {s' : Shared}, Inv (X.blk sL HL scope eB fp) [] σ' H' s' → (∀ b ∈ fp, H' b = none) → ∀ b ∈ fp, FpOk (X.blk sL HL scope eB fp) [] H' b := fun {σ' H' s'} K e b hb =>
    ⟨e b hb, (K.ok.exf b hb).1, K.ok.exfs b hb, .inl hb, (K.ok.exf b hb).2, fun p hp => by simp at hp⟩
  have whole : codeAny (model X.prog X.w) X.A (.compLoop (.ListComp elt [⟨tg, iter, [], 0⟩] scope pos) 0 (.ref it) (.ref D) eB) (compPost (model X.prog X.w) X.A X.xe none (EP X pins σ Q) (.ref D) sL.heap.objs.size) { sL with heap := pushCells (sL.heap.push { cls := .type "dict", data := .dict #[] }) scope.names } := by
    refine compLoop_any (fun m s' => ∃ i H', m = n - i ∧ Inv (X.blk sL HL scope eB fp) [] (wipe σ (own.map (·.2))) H' s' ∧ tn i s'.heap ∧ (∀ b ∈ fp, H' b = none) ∧ W i H') ?_ (n - 0) ⟨0, HL, rfl, IB, stB, fun b hb => (fpL b hb).1, w0⟩
    rintro m s1 ⟨i, H1, rfl, I1, st1, fr1, w1⟩
    rcases turns i H1 w1 with ⟨hstop, hq⟩ | ⟨hin, hgo, step⟩
    · refine thnF (T.done (X.blk sL HL scope eB fp) rfl rfl rfl hcalm i [] s1 _ H1 (fun _ _ => False) I1 (fpB I1 fr1) st1 hstop) fun r s2 hr => ?_
      obtain ⟨rfl, I2⟩ := hr
      have IX : Inv X pins σ H1 s2 := IL.call' (ch := fp) I2.os I2.base I2.hok I2.bare fun b hb => let ⟨_, a1, _, a3, a4, a5⟩ := fpL b hb; ⟨a3, a1, a4, a5⟩
      obtain ⟨names, hns, _⟩ := I2.loc
      have hns' : s2.heap.Ns sL.heap.objs.size names := by rw [← hloc]; exact hns
      have nB : H1 sL.heap.objs.size = none := by rw [← hloc]; exact I2.free
      obtain ⟨b0, b1, _, b3, b4, b5⟩ := IL.fpOk (Nat.le_refl _) nB
      exact ⟨names, hns', fun h2 sb => ⟨.ref D, H1, IX.turned (t' := s2.toks) (fun b o ne e => (sb.2 b ne).trans e) b0 b1 b3 b4 b5, rfl, hq⟩⟩
    · refine thnF (T.item (X.blk sL HL scope eB fp) rfl rfl rfl hcalm i [] s1 _ H1 (fun _ _ => False) I1 (fpB I1 fr1) st1 hgo) fun r s2 hr => ?_
      obtain ⟨u, rfl, hu⟩ := hr
      refine thnF hu fun _ s3 ⟨x, H3, I3, rx, hy, st3, fr3⟩ => ?_
      have obj3 := T.obj _ _ st3
      have P3 := I3.pinned (fpB I3 fr3) obj3
      refine thnF (tg2.run _ s3 _ H3 x u _ P3 rx (step x H3 hy)) fun _ s4 ⟨σ4, H4, I4, back, q4⟩ => ?_
      refine wpAny_mono (Q := fun b s5 => b = true ∧ s5 = s4) (E := fun _ _ => False) (by rw [List.forIn_nil]; exact wpAny_pure ⟨rfl, rfl⟩) (fun b s5 hb => ?_) fun _ _ z => z.elim
      obtain ⟨rfl, rfl⟩ := hb
      rw [if_pos rfl]
      refine thnF (elt2.run _ s5 σ4 H4 _ I4 q4) fun w s6 ⟨y, H6, I6, ry, acc, hD, hlen, w6⟩ => ?_
      refine app_ok (X := X.blk sL HL scope eB fp) I6 hD hlen ry fun s7 I7 => ?_
      have still : ∀ b ∈ fp, ∀ o, s3.heap.get? b = some o → s7.heap.get? b = some o ∧ upd H6 D (.lst (acc ++ [y])) b = none := fun b hb o e => by
        have z := I7.pin (b, o) (List.mem_append_right _ (List.mem_append_right _ (mem_pinsAt hb e)))
        exact ⟨z.1, z.2.1⟩
      refine ⟨n - (i + 1), by omega, i + 1, _, rfl, (I7.unpinned (pins := [])).weak (by rw [← back, wipe_length]) (fun j v e => ?_), T.keep _ _ _ st3 fun b hb o e => (still b hb o e).1, fun b hb => ?_, w6⟩
      · rw [← back] at e
        exact (wipe_some e).1
      · obtain ⟨o, e, _⟩ := obj3 b hb
        exact (still b hb o e).2
  exact codeAny_compStart_list whole (T.self X.A 0 _ _ _ stB whole)
end
end Mp

/-! MpN6: lists of lambdas, made and walked. -/
namespace Mp
open PySem PySem.Spec PyProof.Rows L2 RZ
section
variable {C : Ctx} {L : Act} {W : WX} {P : Tb} {k : Nat} {cl : Cl} {A : Pl} {X : Cx}
/-- a lambda is made and known from now on -/
def tLamT (C : Ctx) (l : LPl) (h : Nat) : TE := fun σ H Q => LamX.Tabs C.ts H ∧ ∀ (f : Addr) (H1 : Hp), (∀ a o, H a = some o → NT o → H1 a = some o) → (∀ a, H1 a = none → H a = none) → LamX.Tabs C.ts H1 → CloAt C l H1 h f → Q (.ref f) H1
theorem pe_lamT {h : Nat} {params : Arguments} {body : Expr} {scope : Scope} {p : Pos} (G : GOk C P k cl) (o : Ok C L W k A X) (hlm : A.lm = true) (hc : lamChk P A.sc A.N h params body scope = true) : PE X (.Lambda params body scope p) (tLamT C ⟨A.sc, A.N, X.env.cells, X.env.qual ++ "<lambda>"⟩ h) := by
  obtain ⟨hr, LA, hlp⟩ := o.lm hlm
  obtain ⟨c, T, e1, e2, e3, e4⟩ := LA.ex
  have hc0 := hc
  unfold lamChk at hc
  simp only [Bool.and_eq_true] at hc
  obtain ⟨⟨hn, hs⟩, _⟩ := hc
  have Ls : LamX.LamS X.env.scope scope := by rw [o.x.sc]; exact LamX.lamS_by hs
  constructor
  intro pins s σ H Q I ⟨hT, hq⟩
  apply lam_new I (by rw [o.x.base, o.x.mg]; exact e2) e1 e3 e4 hT (noArgs_def hn X.env) (Ls.has I.ok)
  intro f c' pm ctv H1 s' I1 eN nN T1 hf hfn hfr hco hsz
  have fp := I.fpOk hsz hfn
  have new : ObjOk X.prog X.w (upd H1 f (.ext fun g => g.get? f = some (cloO ⟨A.sc, A.N, X.env.cells, X.env.qual ++ "<lambda>"⟩ params body scope pm c' ctv))) s'.heap f (.ext fun g => g.get? f = some (cloO ⟨A.sc, A.N, X.env.cells, X.env.qual ++ "<lambda>"⟩ params body scope pm c' ctv)) :=
    ⟨hf, ⟨_, hf⟩, fun h1 h2 a b => b _ a⟩
  have I2 := I1.take (h' := s'.heap) (t' := s'.toks) (fun b ob _ e => e) fp new
  have nc : ∀ {a : Addr} {u : HO}, H1 a = some u → upd H1 f (.ext fun g => g.get? f = some (cloO ⟨A.sc, A.N, X.env.cells, X.env.qual ++ "<lambda>"⟩ params body scope pm c' ctv)) a = some u := fun {a u} e => upd_keep hfn a u e
  exact ⟨.ref f, _, I2, rfl, hq f _ (fun a u e nt => nc (eN a u e nt.ne)) (fun a e => nN a (by
    by_cases q : a = f
    · subst q; exact hfn
    · rw [upd_ne q] at e; exact e)) (T1.ext fun a u e => nc e) ⟨c', params, body, scope, pm, ctv, upd_same, nc hco, (G.lk _ _ _ _ _ _).mpr hc0⟩⟩
/-- .. one after the other -/
def tLams (C : Ctx) (L : Act) (hs : List Nat) : TA := fun σ H Q => ∃ z p, SRel C L z H p σ ∧ ∀ vs H1, Go C L z H p σ z H1 p σ → LamL C L H1 hs vs → Q vs H1
theorem pa_lams (G : GOk C P k cl) (o : Ok C L W k A X) (hlm : A.lm = true) : ∀ {hs : List Nat} {es : List Expr}, lamsB P A hs es = true → PA X es (tLams C L hs)
  | [], es, h => by
    unfold lamsB at h
    split at h
    · exact PA.imp pa_nil fun σ H Q ⟨z, p, s, q⟩ => q [] H (.refl s) True.intro
    · cases h
  | h0 :: hs, es, h => by
    unfold lamsB at h
    split at h
    · rename_i params body scope p es
      simp only [Bool.and_eq_true] at h
      refine PA.imp (pa_cons (pe_lamT (p := p) G o hlm h.1) (pa_lams G o hlm h.2) rfl) ?_
      rintro σ H Q ⟨z, p0, s, q⟩
      refine ⟨s.tb, fun f H1 k1 n1 t1 clo => ?_⟩
      have g1 : Go C L z H p0 σ z H1 p0 σ := Go.unro s k1 n1 t1
      refine ⟨z, p0, g1.rel, fun vs H2 g2 ll => q (.ref f :: vs) H2 (g1.trans s g2) ⟨⟨_, f, rfl, (o.lm hlm).2.2, clo.up g2.stp.keep g1.rel.mok.wrt⟩, ll⟩⟩
    · cases h
theorem LamL.len {H : Hp} : ∀ {hs : List Nat} {vs : List V}, LamL C L H hs vs → hs.length = vs.length
  | [], [], _ => rfl
  | [], _ :: _, h => h.elim
  | _ :: _, [], h => h.elim
  | _ :: _, _ :: _, ⟨_, r⟩ => by rw [List.length_cons, List.length_cons, LamL.len r]
theorem LamL.get {H : Hp} : ∀ {hs : List Nat} {vs : List V} {i : Nat} {v : V}, LamL C L H hs vs → vs[i]? = some v → ∃ (h : Nat) (l : LPl) (f : Addr), hs[i]? = some h ∧ v = .ref f ∧ L.lp = some l ∧ CloAt C l H h f
  | [], [], _, _, _, e => by simp at e
  | [], _ :: _, _, _, h, _ => h.elim
  | _ :: _, [], _, _, h, _ => h.elim
  | h0 :: _, _ :: _, 0, v, ⟨⟨l, f, e1, e2, e3⟩, _⟩, e => by simp at e; subst e; exact ⟨h0, l, f, rfl, e1, e2, e3⟩
  | _ :: hs, _ :: vs, i + 1, v, ⟨_, r⟩, e => by
    obtain ⟨h, l, f, a, b⟩ := LamL.get r (by simpa using e)
    exact ⟨h, l, f, by simpa using a, b⟩
/-- a list of lambdas in a slot -/
theorem SRel.setLam {z : As} {H : Hp} {p : Sg} {σ : L2.St} {i : Nat} {hs : List Nat} {vs : List V} {a : Addr} (s : SRel C L z H p σ) (hi : i < p.length) (hm : i ∉ L.mp.map (·.1)) (n : H a = none) (ll : LamL C L H hs vs) : Go C L z H p σ z (upd H a (.lst vs)) (p.set i (.lam hs)) (σ.set i (some (.ref a))) := by
  have hi' : i < σ.length := by rw [← s.len]; exact hi
  have s1 := s.ext (upd_keep (o := .lst vs) n)
  have at1 : ∀ {j : Nat} {sl : Slot}, (p.set i (.lam hs))[j]? = some sl → (j = i ∧ sl = .lam hs) ∨ (j ≠ i ∧ p[j]? = some sl) := fun {j sl} q => by
    by_cases hj : i = j
    · subst hj; rw [List.getElem?_set_self hi] at q; cases q; exact .inl ⟨rfl, rfl⟩
    · rw [List.getElem?_set_ne hj] at q; exact .inr ⟨Ne.symm hj, q⟩
  have ownUp : ∀ b, Own (p.set i (.lam hs)) (σ.set i (some (.ref a))) b → Own p σ b := by
    rintro b ⟨j, t, x, e1, e2⟩
    rcases at1 e1 with ⟨_, q⟩ | ⟨hj, q⟩
    · cases q
    · rw [List.getElem?_set_ne (Ne.symm hj)] at e2; exact ⟨j, t, x, q, e2⟩
  refine ⟨⟨by simpa using s.len, s1.zt, s1.h0, fun j x e => ?_, fun j t x e => ?_, fun j l t u x y b e1 e2 e3 e4 => ?_, fun q hq => ?_, s1.tb, fun j l e => ?_⟩, ⟨fun b u e _ _ => upd_keep n b u e, fun b e => ?_, fun b e _ => e, fun b e => .inl e⟩, fun b e => .inl (ownUp b e)⟩
  · rcases at1 e with ⟨_, q⟩ | ⟨hj, q⟩
    · cases q
    · rw [List.getElem?_set_ne (Ne.symm hj)]; exact s1.pv j x q
  · rcases at1 e with ⟨_, q⟩ | ⟨hj, q⟩
    · cases q
    · rw [List.getElem?_set_ne (Ne.symm hj)]; exact s1.ow j t x q
  · rcases at1 e1 with ⟨_, q⟩ | ⟨hj, q⟩
    · cases q
    · rcases at1 e2 with ⟨_, q2⟩ | ⟨hl, q2⟩
      · cases q2
      · rw [List.getElem?_set_ne (Ne.symm hj)] at e3
        rw [List.getElem?_set_ne (Ne.symm hl)] at e4
        exact s1.dj j l t u x y b q q2 e3 e4
  · rw [List.getElem?_set_ne fun e => hm (List.mem_map.mpr ⟨q, hq, e.symm⟩)]
    exact s1.mp q hq
  · rcases at1 e with ⟨rfl, q⟩ | ⟨hj, q⟩
    · cases q
      exact ⟨a, vs, List.getElem?_set_self hi', upd_same, fun q => s.zt a q n, ll.up (M := fun _ => False) (fun b u e _ _ => upd_keep n b u e) (fun _ q => q.elim) rfl⟩
    · exact (s1.lm j l q).at (List.getElem?_set_ne (Ne.symm hj))
  · by_cases q : b = a
    · subst q; exact n
    · rw [upd_ne q] at e; exact e
theorem s_asl {i : Nat} {hs : List Nat} {x : Str} {es : List Expr} {px p pos : Pos} (G : GOk C P k cl) (o : Ok C L W k A X) (hlm : A.lm = true) (hst : storeB A i x = true) (hl : hs.length ≤ 1000) (hc : lamsB P A hs es = true) :
    PS X (.Assign [.Name x px] (.List es p) pos) (tOfS C L W fun s => if i < s.length then .nx (s.set i (.lam hs)) else .no) := by
  obtain ⟨q1, q2, q3, q4, q5⟩ := store_ok' o hst
  refine PS.imp (ps_set q1 q2 q3 (pe_lst (pa_lams G o hlm hc)) rfl q4) ?_
  rintro D σ H ⟨z, p, s, q⟩
  dsimp only at q
  refine ⟨z, p, s, fun vs H1 g ll => ⟨?_, fun a n => ?_⟩⟩
  · rw [← ll.len, sizeLine_eq]; omega
  · split at q
    · rename_i hi
      have g2 := g.rel.setLam hi q5 n ll
      exact q _ _ _ (g.trans s g2)
    · exact q.elim
/-! ### a list of lambdas walked -/
/-- the word of one lambda, called now -/
theorem lam_tl {w : Wd} {z : As} {H : Hp} {p : Sg} {σ : L2.St} {fb : Sg → Rs RV} {v : PV} {Q : VK} {K : PySem.W.Frag} (G : GOk C P k cl) (hK : K = C.K) (hkn : ∀ h ∈ w.hs, ∃ a : Addr, C.xc h.c = some (.ref a)) (s : SRel C L z H p σ) (hv : runW w (fb (ro p)) = some v)
    (q : ∀ t H', v = .str t → Go C L z H p σ z H' p σ → Q (.str t) H') : tOf C L0 (fun cls dd _ H' => hE C K w.hs cls dd H' Q) fb σ H fun _ H' => Q (.str w.fin) H' := by
  refine ⟨fun _ => False, ro p, s.ro (L' := L0) (fun _ => False) (fun _ h => h.elim) rfl (fun _ _ => rfl), ?_⟩
  have back : ∀ {H' : Hp} {z' : As} {p' : Sg}, Go C L0 (fun _ => False) H (ro p) σ z' H' p' σ → Go C L z H p σ z H' p σ := fun {H' z' p'} g =>
    Go.unro s (fun a o e nt => g.stp.keep a o e no_own nt) (fun a e => g.stp.there a e) g.rel.tb
  cases e5 : fb (ro p) with
  | no => rw [e5] at hv; cases hv
  | ok r p' =>
    rw [e5] at hv
    cases hv
    exact fun u H' z' g rr => q _ H' rfl (back g)
  | er x p' =>
    rw [e5] at hv
    intro cls dd H' z' g xr
    have hv' : hdGo x w.hs = some v := hv
    exact hd_run G hK xr hkn hv' fun t et => q t H' et (back g)
theorem wordsG_at {tb : Nat → Option Fd} {w : Wd} (ha : isAbs tb = false) : ∀ {hs : List Nat} {ks : List (List Nat)} {s : Sg} {l : List PV} {i h : Nat}, wordsG tb w cl hs ks s = some l → hs[i]? = some h → ∃ v, l[i]? = some v ∧ runW w (cl h (ro s)) = some v
  | [], _, _, _, _, _, _, e => by simp at e
  | h0 :: hs, ks, s, l, i, h, e, eh => by
    unfold wordsG at e
    split at e
    · rename_i v vs e1 e2
      cases e
      cases i with
      | zero =>
        simp at eh
        subst eh
        unfold word1 at e1
        rw [ha] at e1
        exact ⟨v, rfl, by simpa using e1⟩
      | succ i =>
        obtain ⟨u, a, b⟩ := wordsG_at ha e2 (by simpa using eh)
        exact ⟨u, by simpa using a, b⟩
    · cases e
theorem wordsG_len {tb : Nat → Option Fd} {w : Wd} : ∀ {hs : List Nat} {ks : List (List Nat)} {s : Sg} {l : List PV}, wordsG tb w cl hs ks s = some l → l.length = hs.length
  | [], _, _, _, e => by unfold wordsG at e; cases e; rfl
  | h0 :: hs, ks, s, l, e => by
    unfold wordsG at e
    split at e
    · rename_i v vs e1 e2
      cases e
      simp [wordsG_len e2]
    · cases e
theorem runW_str {w : Wd} {r : Rs RV} {v : PV} (e : runW w r = some v) : ∃ t, v = .str t := by
  cases r with
  | ok _ _ => cases e; exact ⟨_, rfl⟩
  | er x _ => exact hdGo_str e
  | no => cases e
def strV : PV → V
  | .str t => .str t
  | _ => .non
theorem wl_rep {z : As} {H : Hp} : ∀ {l : List PV}, (∀ v ∈ l, ∃ t, v = .str t) → RepL C z H l (l.map strV)
  | [], _ => .nil
  | v :: l, h => by
    obtain ⟨t, rfl⟩ := h v List.mem_cons_self
    exact .cons (.str t) (wl_rep fun u hu => h u (List.mem_cons_of_mem _ hu))
end
section
variable {C : Ctx} {L : Act} {k : Nat} {P : Tb} {cl : Cl}
theorem Ok.blk {W : WX} {A : Pl} {X : Cx} (o : Ok C L W k A X) (s : Shared) (H : Hp) (scope : Scope) (hk : scope.kind = .function) (D : Addr) (cl : List (Str × Addr)) (fp : List Addr) : Ok C L W0 k (blkPl A scope) (X.blk s H scope (compEnvC scope cl D X.env) fp) where
  x := ⟨o.x.prog, o.x.w, o.x.K, o.x.mg, o.x.base, o.x.names, o.x.nd, by
    show (compEnvC scope cl D X.env).scope = relS scope A.sc
    rw [← o.x.sc]; rfl, o.x.calm, o.x.room, o.x.gd, takes0, PassesOwn.never, o.x.gv⟩
  kind := hk
  fl := fun h => by cases h
  mp := o.mp
  lm := fun h => by cases h
  fr := fun h => by cases h
  cs := fun x h => by
    have h1 := List.contains_iff_mem.mp h
    exact (List.mem_filter.mp h1).2
end
section
variable {C : Ctx} {L : Act} {W : WX} {P : Tb} {k : Nat} {cl : Cl} {A : Pl} {X : Cx}
/-- [word(y) for y in src] -/
theorem e_lcw {g i j : Nat} {ks : List (List Nat)} {d : Fd} {w : Wd} {y src : Str} {scope : Scope} {p0 p1 p2 p3 p4 pos : Pos} (G : GOk C P k cl) (o : Ok C L W k A X) (hlm : A.lm = true) (hd : P.tb g = some d) (hw : d.wd = some w) (hok : okName d.name = true) (hgl : glB (blkPl A scope).sc d.name = true)
    (hb : blkC A.N A.sc scope (ownNames A [j]) = true) (hsrc : varB A i src = true) (hst : storeB (blkPl A scope) j y = true) (hy : varB (blkPl A scope) j y = true) (hm : A.mp.contains j = false) :
    PE X (.ListComp (.Call (.Name d.name p0) [.Name y p1] [] p2) [⟨.Name y p3, .Name src p4, [], 0⟩] scope pos) (tOf C L W (evE cl C.tb (.lcw g i j ks))) := by
  obtain ⟨f0, fd, pg, bg, sg, mG, F, S, wb, B⟩ := (G.wd g d w hd hw).ex
  obtain ⟨oc, od, dV, kV, doc, pm0, an, cdv, ct, osl, rfl, lk, hcd, _, _⟩ := F.ex
  obtain ⟨hr, LA, hlp⟩ := o.lm hlm
  have wb2 := wb
  unfold wdB at wb2
  split at wb2
  case h_2 => cases wb2
  rename_i a q1 q2 q3 h0 hs' q4 fin kf q5 q6
  simp only [Bool.and_eq_true, decide_eq_true_eq] at wb2
  obtain ⟨⟨⟨⟨⟨w1, w2⟩, w3⟩, w4⟩, w5⟩, w6⟩ := wb2
  have tk : d.N.take d.np = [a] := by
    rw [w1]
    cases hN : d.N with
    | nil => rw [hN] at w2; cases w2
    | cons y ys => rw [hN] at w2; cases w2; rfl
  have va : Vis sg a := by
    unfold visB at w3
    unfold Vis
    split at w3
    · exact .inl (by assumption)
    · exact .inr (.inl (by assumption))
    · exact .inr (.inr (by assumption))
    · cases w3
  have hu2 : X.A.units + 100 < cLine := by have := hr.un; omega
  have bok := blkOk_by hb
  have hkind := bok.kind
  have ob := fun s0 H0 C0 cl0 fp => o.blk s0 H0 scope hkind C0 cl0 fp
  have hdW : C.tb g = some d := by rw [G.tb]; exact hd
  refine ⟨fun pins s0 σ H Q I ⟨z0, p, sr, q⟩ => ?_⟩
  unfold evE at q
  rw [hdW] at q
  cases el : lamsAt p i with
  | none => rw [el] at q; exact q.elim
  | some hs =>
    rw [el] at q
    dsimp only at q
    rw [hw] at q
    dsimp only at q
    cases ew : wordsG C.tb w cl hs ks p with
    | none => rw [ew] at q; exact q.elim
    | some l =>
      rw [ew] at q
      have ep : p[i]? = some (.lam hs) := by
        unfold lamsAt at el
        split at el
        · rename_i hs2 e; cases el; exact e
        · cases el
      obtain ⟨al, vs0, s1, s2, s3, s4⟩ := sr.lm i hs ep
      have hlen := wordsG_len ew
      have allS : ∀ v ∈ l, ∃ t, v = .str t := fun v hv => by
        obtain ⟨m, hm1, hm2⟩ := List.mem_iff_getElem.mp hv
        obtain ⟨u, e1, e2⟩ := wordsG_at (i := m) G.ab ew (List.getElem?_eq_getElem (by omega))
        rw [List.getElem?_eq_getElem hm1, hm2] at e1
        cases e1
        exact runW_str e2
      -- the call of one of them
      have helt : ∀ s2 H2 C2 cl2 fp2, Inv X pins σ H2 s2 → (∀ b ∈ fp2, FpOk X pins H2 b) → PE (X.blk s2 H2 scope (compEnvC scope cl2 C2 X.env) fp2) (.Call (.Name d.name p0) [.Name y p1] [] p2)
          (fun σ2 H3 Q3 => ∃ z h f lp v, SRel C L z H3 p σ ∧ σ2[j]? = some (some (.ref f)) ∧ L.lp = some lp ∧ CloAt C lp H3 h f ∧ runW w (cl h (ro p)) = some v ∧ ∀ t H', v = .str t → Go C L z H3 p σ z H' p σ → Q3 (.str t) H') := by
        intro s2 H2 C2 cl2 fp2 I2 fpo
        have ox := ob s2 H2 C2 cl2 fp2
        refine ⟨fun pins3 s3 σ3 H3 Q3 I3 ⟨z, h, f, lp, v, sr3, hj, hlp2, clo, hv, hq⟩ => ?_⟩
        have IX : Inv X pins σ H3 s3 := I2.call' (ch := fp2) I3.os I3.base I3.hok I3.bare fun b hb => let ⟨_, a1, _, a3, a4, a5⟩ := fpo b hb; ⟨a3, a1, a4, a5⟩
        rw [hlp] at hlp2
        cases hlp2
        obtain ⟨c', params, body, lsc, pm, ctv, c1, c2, c3⟩ := clo.ex
        have lc := (G.lk _ _ _ _ _ _).mp c3
        unfold lamChk at lc
        simp only [Bool.and_eq_true] at lc
        obtain ⟨⟨hn, hls⟩, lc3⟩ := lc
        obtain ⟨ee, hth, hce⟩ : ∃ ee, P.tb h = some (lamFd A.N ee) ∧ chkE P ⟨lsc, A.N, [], false, false, []⟩ ee body = true := by
          split at lc3
          · rename_i nm M np ee hth
            simp only [Bool.and_eq_true, decide_eq_true_eq] at lc3
            obtain ⟨⟨⟨rfl, rfl⟩, rfl⟩, hce⟩ := lc3
            exact ⟨ee, hth, hce⟩
          · cases lc3
        obtain ⟨fb, fb1, fb2⟩ := G.la h A.N ee hth
        have Ls : LamX.LamS X.env.scope lsc := by rw [o.x.sc]; exact LamX.lamS_by hls
        have lenp : (ro p).length = A.N.length := by
          unfold ro
          rw [List.length_map, sr.len, ← o.x.names]
          exact I.len
        have hvb : runW w (fb (ro p)) = some v := by
          rcases fb2 (ro p) lenp with ⟨r, s1, r2, s2, e1, e2⟩ | ⟨x, s1, s2, e1, e2⟩ | e1
          · rw [e1] at hv; rw [e2]; exact hv
          · rw [e1] at hv; rw [e2]; exact hv
          · rw [e1] at hv; cases hv
        apply wpAny_Call_Name_kw
        apply ld_glob I3 (ox.gl hgl) (by show X.mg d.name = _; rw [o.x.mg]; exact mG) ?_ (okName_of hok).1
        refine PySem.W.callWith_K I3.ok.mod.kin (by show PySem.W.keepIn X.K _ = true; rw [o.x.K]; exact F.kp) ?_ (by rfl) (by rfl)
        show wpAny _ _ (spliced ((false, eval (.Name y p1) _) :: backTo p2 (starEach [] _))) _ _ s3
        apply Calls.spliced_cons
        apply thn ((var_ok (p := p1) ox hy).run pins3 s3 σ3 H3 (fun v H1 => v = .ref f ∧ H1 = H3) I3 ⟨.ref f, hj, rfl, rfl⟩)
        rintro u s4 ⟨v4, H4, I4, r4, rfl, rfl⟩
        obtain rfl : u = Value.ref f := r4
        have IX4 : Inv X pins σ H4 s4 := I2.call' (ch := fp2) I4.os I4.base I4.hok I4.bare fun b hb => let ⟨_, a1, _, a3, a4, a5⟩ := fpo b hb; ⟨a3, a1, a4, a5⟩
        refine Calls.spliced_nil ⟨I4.kIn, ?_⟩
        have lk' := lk
        rw [← o.x.K] at lk'
        have rc : codeAny (model X.prog X.w) X.A (.call (.ref f0) ⟨[.ref f], []⟩) (CR C8.CX0 X.stack X.prog X.w H4 s4 Q3 C8.E0) s4 := by
          refine LamX.run_ofS (k := 3 * k + 1) (N := d.N) (ps := [a]) (us := [.ref f]) (vs := [.ref f]) lk' (by rw [o.x.K]; exact hcd) (by rw [← tk]; exact S) hr IX4.env0 (by have hBB := B; rw [tk, ← o.x.K] at hBB; exact hBB s4 [.ref f] IX4.kIn rfl) (.cons rfl .nil) rfl fun hr' => ?_
          have tt1 := word_gives (X := X) (g := f0) (cdg := cdv) (q := X.env.qual ++ "<lambda>") G o.x.K o.x.prog o.x.w o.x.mg o.x.gd hu2 S wb w2
          obtain ⟨t', ht', hq'⟩ := tt1 f c' s4 H4 Q3 (fun E H' Q' => H' f = some (.ext fun g => g.get? f = some (cloO ⟨A.sc, A.N, X.env.cells, X.env.qual ++ "<lambda>"⟩ params body lsc pm c' ctv)) ∧ tOf C L0 (fun cls dd _ H'' => E cls dd H'') fb σ H' Q')
            (fun Wt pn xe E p1 p2 tkk hWW => lam_call (i := 0) (cnd := fun H' => H' f = some (.ext fun g => g.get? f = some (cloO ⟨A.sc, A.N, X.env.cells, X.env.qual ++ "<lambda>"⟩ params body lsc pm c' ctv))) IX4 Ls (fun s5 HZ hok _ hc => (hok f _ hc).1) (noArgs_bind hn _ _ _ _ _) tkk hWW hr' o.x.gd
              (fun A' outer s H hr2 hg2 => fb1 (lamPl A lsc) body rfl hce _ _ _ (lm_ok o Ls hr2 hg2)) w2 va (okName_of w4).1 (okName_of w4).2) c2 ⟨c1, lam_tl G o.x.K (hds_known G w6) sr3 hvb hq⟩
          exact ⟨t', ht'.nox, hq'⟩
        apply wpAny_call
        apply codeAny_mono rc
        intro r s5 hq5
        cases r with
        | error e => exact (show False from hq5).elim
        | ok fl =>
          cases fl with
          | ret u => exact I4.after hq5
          | next => exact False.elim hq5
          | brk => exact False.elim hq5
          | cont => exact False.elim hq5
      have htg : ∀ s2 H2 C2 cl2 fp2, PG (X.blk s2 H2 scope (compEnvC scope cl2 C2 X.env) fp2) (.Name y p3) (gName j) := fun s2 H2 C2 cl2 fp2 => by
        obtain ⟨t1, t2, t3, t4, _⟩ := store_ok' (ob s2 H2 C2 cl2 fp2) hst
        exact pg_name t1 t2 t3 t4
      have key := lcI_run (own := [(y, j)]) (n := hs.length) (wi := fun σ' H' R => ∃ vs, σ'[i]? = some (some (.ref al)) ∧ H' al = some (.lst vs) ∧ R (Itl X.K al) H') (Q := Q) o.x.calm (by rw [o.x.names]; exact o.x.nd) I
        (PI.imp (pi_seq (tg := .Name y p3) (var_ok (p := p4) o hsrc)) fun σ' H' R ⟨vs, a1, a2, a3⟩ => ⟨.ref al, a1, .inl ⟨al, rfl, .inl ⟨⟨vs, .of a2⟩, a3⟩⟩⟩) (by rw [o.x.names, o.x.sc]; exact blkOk_by (by
          have hyN : A.N[j]? = some y := by
            unfold storeB at hst
            simp only [Bool.and_eq_true, decide_eq_true_eq] at hst
            exact hst.1.1
          have : ownNames A [j] = [(y, j)] := by unfold ownNames; simp [hyN]
          rw [← this]; exact hb)) htg helt (fun x => rfl) ?_ (scope := scope) (pos := pos)
      · exact key
      refine ⟨vs0, s1, s2, fun D hD => ?_⟩
      have hLx := (LamL.len s4)
      have hz0 : vs0.length ≤ sizeLine := (I.hok al _ s2).1
      let W1 : Nat → Hp → Prop := fun m Hc => ∃ z, Go C L z0 H p σ z Hc p σ ∧ z D ∧ ¬ Own p σ D ∧ Hc D = some (.lst ((l.take m).map strV))
      have noD : ¬ Own p σ D := by
        rintro ⟨m, t, x, a1, a2⟩
        obtain ⟨b, ob', b1, _, b3, _⟩ := sr.ow m t x a1
        rw [a2] at b1; cases b1
        rw [hD] at b3; cases b3
      have g0 : Go C L z0 H p σ (fun b => z0 b ∨ b = D) (upd H D (.lst [])) p σ := (Go.refl sr).more sr hD
      refine ⟨W1, ⟨_, g0, .inr rfl, noD, by rw [upd_same]; rfl⟩, ?_⟩
      rintro m Hc ⟨z, g1, hz, no, hDv⟩
      obtain ⟨al', vs, r1, r2, r3, r4⟩ := g1.rel.lm i hs ep
      rw [s1] at r1
      cases r1
      have lv := LamL.len r4
      by_cases hml : m < hs.length
      · refine .inr ⟨hml, ⟨vs, vs[m]'(by omega), .of r2, List.getElem?_eq_getElem (by omega)⟩, fun x Hx hyld => ?_⟩
        obtain ⟨rfl, hx⟩ := hyld
        have hx' := hx vs (.of r2)
        obtain ⟨h, lp, f, e1, rfl, e3, e4⟩ := LamL.get r4 hx'
        obtain ⟨v, v1, v2⟩ := wordsG_at G.ab ew e1
        have jl : j < σ.length := by
          rw [I.len, o.x.names]
          unfold storeB at hst
          simp only [Bool.and_eq_true, decide_eq_true_eq] at hst
          exact (List.getElem?_eq_some_iff.mp hst.1.1).1
        refine ⟨?_, z, h, f, lp, v, g1.rel, ?_, e3, e4, v2, fun t H' et g2 => ?_⟩
        · show ((σ.set j none).set j (some (V.ref f))).set j none = σ.set j none
          rw [List.set_set, List.set_set]
        · show ((σ.set j none).set j (some (V.ref f)))[j]? = _
          rw [List.getElem?_set_self (by rw [List.length_set]; exact jl)]
        · have hD2 : H' D = some (.lst ((l.take m).map strV)) := g2.stp.keep D _ hDv no True.intro
          refine ⟨_, hD2, ?_, z, (g1.trans sr g2).write hz hD no hD2, hz, no, ?_⟩
          · rw [List.length_map, List.length_take]
            exact Nat.lt_of_lt_of_le (Nat.lt_of_le_of_lt (Nat.min_le_left _ _) hml) (by rw [hLx]; exact hz0)
          · rw [upd_same]
            have ev : l.take (m + 1) = l.take m ++ [v] := by rw [List.take_add_one, v1]; rfl
            rw [ev, List.map_append, et]
            rfl
      · refine .inl ⟨⟨vs, .of r2, by omega⟩, q (.ref D) Hc z g1 (.frs hD hz no hDv True.intro (.lst hDv ?_))⟩
        rw [List.take_of_length_le (by omega)]
        exact wl_rep allS
end
end Mp

/-! MpF2: the check of expressions is right. -/
namespace Mp
open PySem PySem.Spec PyProof.Rows L2 RZ

section
variable {C : Ctx} {L : Act} {k : Nat} {P : Tb} {cl : Cl}
theorem asB_id (r : Rs Bool) : asB (r.bind fun d s2 => .ok (.val (.bl d)) s2) = r := by
  rw [asB_bind]
  cases r <;> rfl
theorem own_ix {A : Pl} {own : List Nat} : (ownNames A own).map (·.2) = own := by
  unfold ownNames
  rw [List.map_map]
  induction own with
  | nil => rfl
  | cons a l ih => rw [List.map_cons, ih]; rfl
theorem okEs_star {A : Pl} : ∀ (c : List CE) (e : List Expr), chkEs P A c e = true → e.all noStar = true
  | [], e, h => by
    unfold chkEs at h
    cases e with
    | nil => rfl
    | cons _ _ => cases h
  | c :: cs, e, h => by
    unfold chkEs at h
    cases e with
    | nil => cases h
    | cons e es =>
      simp only [Bool.and_eq_true] at h
      simp only [List.all_cons, h.1.1, okEs_star cs es h.2, Bool.and_self]
theorem iter_ok {W : WX} {A : Pl} {X : Cx} (G : GOk C P k cl) (o : Ok C L W k A X) {kd : IK} {tg iter : Expr} {args : List Expr} {fl : Sg → Rs (List RV)} (h : iterArgs A kd tg iter = some args) (ha : PA X args (tOfL C L W fl)) (hs : args.all noStar = true) (he : ∀ e, args = [e] → ∃ f, PE X e (tOf C L W f) ∧ fl = fun s => (f s).bind fun r s1 => (Rs.ok ([] : List RV) s1).bind fun rs s2 => .ok (r :: rs) s2) : PI X tg iter (iOf C L W kd fl) := by
  unfold iterArgs at h
  split at h
  · cases kd <;> first | (cases h; done) | skip
    · dsimp only at h
      split at h
      · rename_i q
        obtain ⟨rfl, q2⟩ := q
        cases h
        simp only [List.all_cons, List.all_nil, Bool.and_true] at hs
        exact i_rng1 (o.gl q2) (by rw [o.x.mg]; exact G.rg) ha (star_cons hs _ _)
      · cases h
    · dsimp only at h
      split at h
      · rename_i q
        obtain ⟨rfl, q2, q3⟩ := q
        cases h
        simp only [List.all_cons, List.all_nil, Bool.and_true] at hs
        cases tg <;> first | (simp [isTupE] at q3; done) | skip
        exact i_enu o.x.K (o.gl q2) (by rw [o.x.mg]; exact G.en) ha (star_cons hs _ _)
      · cases h
  · cases kd <;> first | (cases h; done) | skip
    · dsimp only at h
      split at h
      · rename_i q
        obtain ⟨rfl, q2⟩ := q
        cases h
        simp only [List.all_cons, List.all_nil, Bool.and_true, Bool.and_eq_true] at hs
        exact i_rng2 (o.gl q2) (by rw [o.x.mg]; exact G.rg) ha (by rw [star_cons hs.1, star_cons hs.2]; rfl) (star_cons hs.2 _ _)
      · cases h
    · dsimp only at h
      split at h
      · rename_i q
        obtain ⟨rfl, q2, q3⟩ := q
        cases h
        simp only [List.all_cons, List.all_nil, Bool.and_true, Bool.and_eq_true] at hs
        cases tg <;> first | (simp [isTupE] at q3; done) | skip
        exact i_zip o.x.K (o.gl q2) (by rw [o.x.mg]; exact G.zp) ha (star_cons hs.1 _ _) (star_all _ _ _ (by simp [hs.2]))
      · cases h
  · cases kd <;> first | (cases h; done) | skip
    · dsimp only at h
      split at h
      · rename_i q
        obtain ⟨rfl, q2, q3, q4⟩ := q
        cases h
        obtain ⟨f, e1, e2⟩ := he _ rfl
        rw [e2]
        cases tg <;> first | (simp [isTupE] at q4; done) | skip
        exact i_itm e1 (base_rfl q3) q2
      · cases h
    · dsimp only at h
      split at h
      · rename_i q
        obtain ⟨rfl, q2, q3⟩ := q
        cases h
        obtain ⟨f, e1, e2⟩ := he _ rfl
        rw [e2]
        exact i_vls e1 (base_rfl q3) q2
      · cases h
  · cases h
mutual
theorem okE (G : GOk C P k cl) : ∀ (c : CE) (L : Act) (W : WX) (A : Pl) (X : Cx) (o : Ok C L W k A X) (e : Expr), chkE P A c e = true → PE X e (tOf C L W (evE cl C.tb c))
  | .var i, L, W, A, X, o, e, h => by
    unfold chkE at h
    split at h
    · exact e_var (var_ok o h)
    · cases h
  | .bor i, L, W, A, X, o, e, h => by
    unfold chkE at h
    split at h
    · exact e_bor (var_ok o h)
    · cases h
  | .cst v, L, W, A, X, o, e, h => by
    unfold chkE at h
    have e1 : evE cl C.tb (.cst v) = fun s => .ok (.val v) s := by
      funext s
      unfold evE
      rw [G.ab, Bool.and_false]
      exact if_neg Bool.false_ne_true
    rw [e1]
    exact cst_ok G o h
  | .bin op a b, L, W, A, X, o, e, h => by
    unfold chkE at h
    split at h
    · simp only [Bool.and_eq_true, decide_eq_true_eq] at h
      obtain ⟨⟨rfl, h1⟩, h2⟩ := h
      exact e_bin o.x.K (okE G a L W A X o _ h1) (okE G b L W A X o _ h2)
    · cases h
  | .neg a, L, W, A, X, o, e, h => by
    unfold chkE at h
    split at h
    · exact e_neg (okE G a L W A X o _ h)
    · cases h
  | .not a, L, W, A, X, o, e, h => by
    unfold chkE at h
    split at h
    · exact e_not o.x.K (okE G a L W A X o _ h)
    · cases h
  | .and a b, L, W, A, X, o, e, h => by
    unfold chkE at h
    split at h
    · simp only [Bool.and_eq_true] at h
      obtain ⟨h1, h2⟩ := h
      refine e_and (okE G a L W A X o _ h1) ?_
      split at h2
      · exact pe_one (okE G b L W A X o _ h2)
      · exact okE G b L W A X o _ h2
    · cases h
  | .or a b, L, W, A, X, o, e, h => by
    unfold chkE at h
    split at h
    · simp only [Bool.and_eq_true] at h
      obtain ⟨h1, h2⟩ := h
      refine e_or (okE G a L W A X o _ h1) ?_
      split at h2
      · exact pe_one (okE G b L W A X o _ h2)
      · exact okE G b L W A X o _ h2
    · cases h
  | .andT _ _, L, W, A, X, o, e, h => by unfold chkE at h; cases h
  | .orT _ _, L, W, A, X, o, e, h => by unfold chkE at h; cases h
  | .notT _, L, W, A, X, o, e, h => by unfold chkE at h; cases h
  | .tru _, L, W, A, X, o, e, h => by unfold chkE at h; cases h
  | .ded, L, W, A, X, o, e, h => ⟨fun pins s σ H Q I ⟨_, _, _, q⟩ => by unfold evE at q; exact q.elim⟩
  | .cmp op a b, L, W, A, X, o, e, h => by
    unfold chkE at h
    split at h
    · simp only [Bool.and_eq_true, decide_eq_true_eq, Bool.not_eq_true'] at h
      obtain ⟨⟨⟨rfl, h0⟩, h1⟩, h2⟩ := h
      exact e_cmp o.x.K o.x.hu o.x.gv h0 (okE G a L W A X o _ h1) (okE G b L W A X o _ h2)
    · cases h
  | .chn q p a b c, L, W, A, X, o, e, h => by
    unfold chkE at h
    split at h
    · simp only [Bool.and_eq_true, decide_eq_true_eq, Bool.not_eq_true'] at h
      obtain ⟨⟨⟨⟨⟨rfl, rfl⟩, h0⟩, h1⟩, h2⟩, h3⟩ := h
      exact e_chn o.x.K o.x.hu o.x.gv h0 (okE G a L W A X o _ h1) (okE G b L W A X o _ h2) (okE G c L W A X o _ h3)
    · cases h
  | .ife t a b, L, W, A, X, o, e, h => by
    unfold chkE at h
    split at h
    · simp only [Bool.and_eq_true] at h
      obtain ⟨⟨h0, h1⟩, h2⟩ := h
      exact e_ife (okT G t L W A X o _ h0) (okE G a L W A X o _ h1) (okE G b L W A X o _ h2)
    · cases h
  | .tup es, L, W, A, X, o, e, h => by
    unfold chkE at h
    split at h
    · exact e_tup (okEs G es L W A X o _ h).1
    · cases h
  | .lst es, L, W, A, X, o, e, h => by
    unfold chkE at h
    split at h
    · exact e_lst (okEs G es L W A X o _ h).1
    · cases h
  | .sub a b, L, W, A, X, o, e, h => by
    unfold chkE at h
    split at h
    · simp only [Bool.and_eq_true] at h
      obtain ⟨⟨h0, h1⟩, h2⟩ := h
      exact e_sub o.x.K o.x.hu (plain_ix h0) (okE G a L W A X o _ h1) (okE G b L W A X o _ h2)
    · cases h
  | .slc a lo hi, L, W, A, X, o, e, h => by
    unfold chkE at h
    split at h
    · simp only [Bool.and_eq_true] at h
      obtain ⟨⟨h0, h1⟩, h2⟩ := h
      exact e_slc o.x.K (okE G a L W A X o _ h0) (okO G lo L W A X o _ h1) (okO G hi L W A X o _ h2)
    · cases h
  | .cal g es, L, W, A, X, o, e, h => by
    unfold chkE at h
    split at h
    · simp only [Bool.and_eq_true] at h
      obtain ⟨h0, h1⟩ := h
      split at h0
      · rename_i d hd
        simp only [Bool.and_eq_true, decide_eq_true_eq] at h0
        obtain ⟨⟨rfl, h2⟩, h3⟩ := h0
        obtain ⟨r1, r2⟩ := okEs G es L W A X o _ h1
        have hd' : C.tb g = some d := by rw [G.tb]; exact hd
        cases es with
        | nil =>
          cases r2.1 rfl
          exact e_cal0 o.x hd' (G.df g d hd (okName_ne h2)) (o.gl h3) (okName_of h2).1
        | cons c cs =>
          obtain ⟨e1, es1, rfl, r4⟩ := r2.2 c cs rfl
          simp only [List.all_cons, Bool.and_eq_true] at r4
          exact e_cal o.x hd' (G.df g d hd (okName_ne h2)) (o.gl h3) (okName_of h2).1 r1 (star_cons r4.1 _ _) (star_all _ _ _ r4.2)
      · cases h0
    · cases h
  | .bui b es, L, W, A, X, o, e, h => by
    unfold chkE at h
    split at h
    · simp only [Bool.and_eq_true, decide_eq_true_eq] at h
      obtain ⟨⟨rfl, h2⟩, h3⟩ := h
      obtain ⟨r1, r2⟩ := okEs G es L W A X o _ h3
      cases es with
      | nil => cases r2.1 rfl
      | cons c cs =>
        obtain ⟨e1, es1, q, r4⟩ := r2.2 c cs rfl
        cases q
        simp only [List.all_cons, Bool.and_eq_true] at r4
        exact e_bui o.x.K o.x.prog o.x.w o.x.calm o.x.gd o.x.hu (o.gl h2) (by rw [o.x.mg]; exact G.bi b) r1 (star_cons r4.1 _ _) (star_all _ _ _ r4.2)
    · cases h
  | .rev a, L, W, A, X, o, e, h => by
    unfold chkE at h
    split at h
    · exact e_rev o.x.K (okE G a L W A X o _ h)
    · cases h
  | .fz a, L, W, A, X, o, e, h => by
    unfold chkE at h
    exact e_fz (okE G a L W A X o e h)
  | .spl ks a, L, W, A, X, o, e, h => by
    unfold chkE at h
    have q := e_spl (okE G a L W A X o e h)
    have e1 : evE cl C.tb (.spl ks a) = fun s => match evE cl C.tb a (ro s) with
      | .ok r _ => (match valOf r with
        | some v => .ok (.val v) s
        | none => .no)
      | _ => .no := by
      funext s
      conv => lhs; unfold evE
      rw [G.ab]
      rfl
    rw [e1]
    exact q
  | .lamc g a, L, W, A, X, o, e, h => by
    unfold chkE at h
    split at h
    · rename_i x px params body scope lpos pos
      simp only [Bool.and_eq_true] at h
      obtain ⟨⟨⟨⟨h1, h2⟩, h3⟩, h4⟩, h5⟩ := h
      split at h1
      case h_2 => cases h1
      rename_i d hd
      simp only [Bool.and_eq_true, decide_eq_true_eq] at h1
      obtain ⟨⟨⟨h6, rfl⟩, h7⟩, h8⟩ := h1
      obtain ⟨w, hw⟩ := Option.isSome_iff_exists.mp h6
      have q := e_lamc (fb := evE cl C.tb a) (p := px) (lpos := lpos) (pos := pos) G o h2 hd hw (o.gl h8) h7 h3 h4 fun W' X' o' => okE G a L0 W' (lamPl A scope) X' o' body h5
      have e1 : evE cl C.tb (.lamc g a) = fun s => match runW w (evE cl C.tb a (ro s)) with
        | some v => .ok (.val v) s
        | none => .no := by
        funext s
        conv => lhs; unfold evE
        rw [G.tb, hd]
        dsimp only
        rw [hw] <;> rfl
      rw [e1]
      exact q
    · cases h
  | .dct kvs, L, W, A, X, o, e, h => by
    unfold chkE at h
    split at h
    · rename_i ks vs pos
      simp only [Bool.and_eq_true, decide_eq_true_eq] at h
      obtain ⟨h1, h2⟩ := h
      obtain ⟨r1, r2, r3, r4, r5⟩ := okPp G kvs L W A X o ks vs h2
      cases kvs with
      | nil =>
        obtain ⟨rfl, rfl⟩ := r5 rfl
        exact e_dct0
      | cons c cs => 
        refine PE.imp (pe_disp (r1 pos) r3 r4 (fun z => ?_) h1) (rd_dct r2 (by simp))
        subst z
        cases cs <;> simp [chkPs] at h2
    · cases h
  | .fst cs, L, W, A, X, o, e, h => by
    unfold chkE at h
    split at h
    · simp only [Bool.and_eq_true] at h
      exact e_fst h.1 (okPa G cs L W A X o _ h.2)
    · cases h
  | .fmt r a, L, W, A, X, o, e, h => by
    unfold chkE at h
    split at h
    · simp only [Bool.and_eq_true, decide_eq_true_eq] at h
      obtain ⟨rfl, h2⟩ := h
      cases r with
      | true => exact e_fmtR o.x.K o.x.prog o.x.w o.x.gd o.x.hu (okE G a L W A X o _ h2)
      | false => exact e_fmtS (okE G a L W A X o _ h2)
    · cases h
  | .lc own tg kd src ifs e, L, W, A, X, o, e', h => by
    unfold chkE at h
    split at h
    · rename_i elt etg iter eifs scope pos
      simp only [Bool.and_eq_true, decide_eq_true_eq] at h
      obtain ⟨⟨⟨⟨⟨⟨⟨⟨h1, h2⟩, h3⟩, h4⟩, h5⟩, h6⟩, h7⟩, h8⟩, h9⟩ := h
      have ok := blkOk_by h2
      have hk := ok.kind
      have ob := fun s H D cl fp => o.blk s H scope hk D cl fp
      have hi : PI X etg iter (iOf C L W kd (evEs cl C.tb src)) := by
        cases kd with
        | val =>
          obtain ⟨f, q1, q2⟩ := okOne G src L W A X o iter h3
          rw [q2]
          exact i_val o.x.K q1
        | _ => 
          dsimp only at h3
          split at h3
          · rename_i args ha
            have r := okEs G src L W A X o args h3
            exact iter_ok G o ha r.1 (okEs_star _ _ h3) fun e he => by subst he; exact okOne G src L W A X o e h3
          · cases h3
      have key := pe_lc (pos := pos) o.x.calm (by rw [o.x.names]; exact o.x.nd) hi (by rw [o.x.names, o.x.sc]; exact ok) (fun s H D cl fp => okTg (ob s H D cl fp) tg etg h4)
        (tt := tOfB C L W0 (evT cl C.tb ifs)) (fun s H D cl2 fp => okTs G ifs L W0 _ _ (ob s H D cl2 fp) eifs h7 h8) (fun s H D cl2 fp => okE G e L W0 _ _ (ob s H D cl2 fp) elt h9) (fun x => fold_none h1 _ x)
      rw [own_ix] at key
      refine PE.imp key (lc_read (fun i hi => ?_) (fun i hi => o.mp i ?_))
      · exact List.contains_iff_mem.mp (List.all_eq_true.mp h5 i hi)
      · simpa using List.all_eq_true.mp h6 i hi
    · cases h
  | .dcp own tg kd src ifs ke ve, L, W, A, X, o, e', h => by
    unfold chkE at h
    split at h
    · rename_i kx vx etg iter eifs scope pos
      simp only [Bool.and_eq_true, decide_eq_true_eq] at h
      obtain ⟨⟨⟨⟨⟨⟨⟨⟨⟨h1, h2⟩, h3⟩, h4⟩, h5⟩, h6⟩, h7⟩, h8⟩, h9⟩, h10⟩ := h
      have ok := blkOk_by h2
      have hk := ok.kind
      have ob := fun s H D cl fp => o.blk s H scope hk D cl fp
      have hi : PI X etg iter (iOf C L W kd (evEs cl C.tb src)) := by
        cases kd with
        | val =>
          obtain ⟨f, q1, q2⟩ := okOne G src L W A X o iter h3
          rw [q2]
          exact i_val o.x.K q1
        | _ => 
          dsimp only at h3
          split at h3
          · rename_i args ha
            have r := okEs G src L W A X o args h3
            exact iter_ok G o ha r.1 (okEs_star _ _ h3) fun e he => by subst he; exact okOne G src L W A X o e h3
          · cases h3
      have key := pe_dc (pos := pos) o.x.calm (by rw [o.x.names]; exact o.x.nd) hi (by rw [o.x.names, o.x.sc]; exact ok) (fun s H D cl fp => okTg (ob s H D cl fp) tg etg h4)
        (tt := tOfB C L W0 (evT cl C.tb ifs)) (fun s H D cl2 fp => okTs G ifs L W0 _ _ (ob s H D cl2 fp) eifs h7 h8) (fun s H D cl2 fp => okE G ke L W0 _ _ (ob s H D cl2 fp) kx h9) (fun s H D cl2 fp => okE G ve L W0 _ _ (ob s H D cl2 fp) vx h10) (fun x => fold_none h1 _ x)
      rw [own_ix] at key
      refine PE.imp key (dc_read (fun i hi => ?_) (fun i hi => o.mp i ?_))
      · exact List.contains_iff_mem.mp (List.all_eq_true.mp h5 i hi)
      · simpa using List.all_eq_true.mp h6 i hi
    · cases h
  | .fld c i a, L, W, A, X, o, e, h => by
    unfold chkE at h
    split at h
    · rename_i x f pos
      simp only [Bool.and_eq_true] at h
      obtain ⟨⟨h1, h2⟩, h3⟩ := h
      split at h1
      · rename_i q hq
        obtain ⟨b, fI, fd, d, m1, m2, m3, m4, _⟩ := (G.ic c q hq).ex
        have hf := of_decide_eq_true h1
        exact e_fld o.x.K m2 m3 hf (m4 f (List.mem_of_getElem? hf)) (base_rfl h2) (okE G a L W A X o x h3)
      · cases h1
    · cases h
  | .isC c a, L, W, A, X, o, e, h => by
    unfold chkE at h
    split at h
    · rename_i x p1 y z p2 pos
      simp only [Bool.and_eq_true, decide_eq_true_eq] at h
      obtain ⟨⟨⟨⟨⟨⟨rfl, h2⟩, h3⟩, h4⟩, h5⟩, h6⟩, h7⟩ := h
      split at h3
      · rename_i q hq
        obtain rfl := of_decide_eq_true h3
        exact e_isC G o hq h2 h4 h5 h6 (okE G a L W A X o y h7)
      · cases h3
    · cases h
  | .mk c g es, L, W, A, X, o, e, h => by
    unfold chkE at h
    split at h
    · rename_i x p1 y ys pos
      simp only [Bool.and_eq_true] at h
      obtain ⟨⟨⟨h1, h2⟩, h3⟩, h4⟩ := h
      split at h1
      · rename_i q hq
        simp only [Bool.and_eq_true, decide_eq_true_eq] at h1
        obtain ⟨⟨hfc, rfl⟩, rfl⟩ := h1
        obtain ⟨r1, r2⟩ := okEs G es L W A X o (y :: ys) h4
        have hs := okEs_star _ _ h4
        simp only [List.all_cons, Bool.and_eq_true] at hs
        exact e_mk G o hfc hq h3 h2 r1 (star_cons hs.1 _ _) (star_all _ _ _ hs.2)
      · cases h1
    · cases h
  | .srk g a, L, W, A, X, o, e, h => by
    unfold chkE at h
    split at h
    · rename_i x p1 y kn z p2 p3 pos
      simp only [Bool.and_eq_true, decide_eq_true_eq] at h
      obtain ⟨⟨⟨⟨⟨rfl, h2⟩, rfl⟩, h4⟩, h5⟩, h6⟩ := h
      split at h4
      · rename_i d hd
        simp only [Bool.and_eq_true, decide_eq_true_eq, List.isEmpty_iff] at h4
        obtain ⟨⟨⟨⟨⟨hfc, rfl⟩, g2⟩, g3⟩, g4⟩, g5⟩ := h4
        exact e_srk G o hfc hd g4 g5 h2 g3 g2 h5 (okE G a L W A X o y h6)
      · cases h4
    · cases h
  | .lsx es a, L, W, A, X, o, e, h => by
    unfold chkE at h
    split at h
    · rename_i xs pos
      exact e_lsx (okLx G es a L W A X o (fun y hy => okE G a L W A X o y hy) xs h)
    · cases h
  | .ind a b, L, W, A, X, o, e, h => by
    unfold chkE at h
    split at h
    · rename_i x m ap y cp
      simp only [Bool.and_eq_true, decide_eq_true_eq] at h
      obtain ⟨⟨⟨⟨⟨rfl, h2⟩, h3⟩, h4⟩, h5⟩, h6⟩ := h
      exact e_ind o (okE G a L W A X o x h5) (okE G b L W A X o y h6) h2 h3 h4
    · cases h
  | .cav i es, L, W, A, X, o, e, h => by
    unfold chkE at h
    split at h
    · rename_i x p1 y ys pos
      simp only [Bool.and_eq_true] at h
      obtain ⟨h1, h2⟩ := h
      obtain ⟨r1, r2⟩ := okEs G es L W A X o (y :: ys) h2
      have hs := okEs_star _ _ h2
      simp only [List.all_cons, Bool.and_eq_true] at hs
      exact e_cav G o h1 r1 (star_cons hs.1 _ _) (star_all _ _ _ hs.2)
    · cases h
  | .lcw g i j ks, L, W, A, X, o, e, h => by
    unfold chkE at h
    split at h
    · rename_i w p0 y p1 p2 y2 p3 src p4 scope pos
      simp only [Bool.and_eq_true, Bool.not_eq_true'] at h
      obtain ⟨⟨⟨⟨⟨⟨h1, h2⟩, h3⟩, h4⟩, h5⟩, h6⟩, h7⟩ := h
      split at h1
      · rename_i d hd
        simp only [Bool.and_eq_true, decide_eq_true_eq] at h1
        obtain ⟨⟨⟨g1, rfl⟩, g3⟩, g4⟩ := h1
        obtain ⟨w, hw⟩ := Option.isSome_iff_exists.mp g1
        have ey : y = y2 := by
          unfold storeB at h5
          unfold varB at h6
          simp only [Bool.and_eq_true, decide_eq_true_eq] at h5 h6
          have := h5.1.1.symm.trans h6.1.1
          exact (Option.some.inj this).symm
        subst ey
        exact e_lcw G o h2 hd hw g3 g4 h3 h4 h5 h6 h7
      · cases h1
    · cases h
theorem okLx (G : GOk C P k cl) : ∀ (c : List CE) (a : CE) (L : Act) (W : WX) (A : Pl) (X : Cx) (o : Ok C L W k A X) (ha : ∀ y, chkE P A a y = true → PE X y (tOf C L W (evE cl C.tb a))) (xs : List Expr), chkLx P A (chkE P A a) c xs = true →
    PA X xs (fun σ H Q => ∃ z p, SRel C L z H p σ ∧ OutE C L W (fun z _ H _ _ (l : List PV) (v : List V) => RepL C z H l v) σ z H p Q (evLx cl C.tb (evE cl C.tb a) c p))
  | [], a, L, W, A, X, o, ha, xs, h => by
    unfold chkLx at h
    split at h
    · exact a_star0 o.x.K (ha _ h)
    · cases h
  | c :: cs, a, L, W, A, X, o, ha, xs, h => by
    unfold chkLx at h
    split at h
    · rename_i e es
      simp only [Bool.and_eq_true] at h
      obtain ⟨⟨h1, h2⟩, h3⟩ := h
      exact a_starC (okE G c L W A X o e h2) (okLx G cs a L W A X o ha es h3) (star_cons h1 _ _)
    · cases h
theorem okEs (G : GOk C P k cl) : ∀ (c : List CE) (L : Act) (W : WX) (A : Pl) (X : Cx) (o : Ok C L W k A X) (e : List Expr), chkEs P A c e = true → PA X e (tOfL C L W (evEs cl C.tb c)) ∧ ((c = [] → e = []) ∧ ∀ c1 cs, c = c1 :: cs → ∃ e1 es, e = e1 :: es ∧ (e1 :: es).all noStar = true)
  | [], L, W, A, X, o, e, h => by
    unfold chkEs at h
    cases e with
    | nil => exact ⟨a_nil, fun _ => rfl, fun _ _ q => by cases q⟩
    | cons _ _ => cases h
  | c :: cs, L, W, A, X, o, e, h => by
    unfold chkEs at h
    cases e with
    | nil => cases h
    | cons e es =>
      simp only [Bool.and_eq_true] at h
      obtain ⟨⟨h1, h2⟩, h3⟩ := h
      obtain ⟨r1, r2⟩ := okEs G cs L W A X o es h3
      refine ⟨a_cons (okE G c L W A X o e h2) r1 (star_cons h1 _ _), ⟨fun q => (by cases q), fun c1 cs1 q => ⟨e, es, rfl, ?_⟩⟩⟩
      simp only [List.all_cons, h1, Bool.true_and]
      cases cs with
      | nil => rw [r2.1 rfl]; rfl
      | cons c2 cs2 =>
        obtain ⟨e1, es1, rfl, q2⟩ := r2.2 c2 cs2 rfl
        exact q2
theorem okPa (G : GOk C P k cl) : ∀ (c : List CE) (L : Act) (W : WX) (A : Pl) (X : Cx) (o : Ok C L W k A X) (e : List Expr), chkEs P A c e = true → Paired (fun c e => PE X e (tOf C L W (evE cl C.tb c))) c e
  | [], L, W, A, X, o, e, h => by
    unfold chkEs at h
    cases e with
    | nil => exact .nil
    | cons _ _ => cases h
  | c :: cs, L, W, A, X, o, e, h => by
    unfold chkEs at h
    cases e with
    | nil => cases h
    | cons e es =>
      simp only [Bool.and_eq_true] at h
      exact .cons (okE G c L W A X o e h.1.2) (okPa G cs L W A X o es h.2)
theorem okPp (G : GOk C P k cl) : ∀ (c : List CE) (L : Act) (W : WX) (A : Pl) (X : Cx) (o : Ok C L W k A X) (ks : List (Option Expr)) (vs : List Expr), chkPs P A c ks vs = true →
    (∀ pos, PPs X pos ks vs (prs (fun c => tOf C L W (evE cl C.tb c)) c)) ∧ evenL c = true ∧ ks.all (·.isSome) = true ∧ ks.length = vs.length ∧ (c = [] → ks = [] ∧ vs = [])
  | [], L, W, A, X, o, ks, vs, h => by
    unfold chkPs at h
    simp only [Bool.and_eq_true, List.isEmpty_iff] at h
    obtain ⟨rfl, rfl⟩ := h
    exact ⟨fun _ => pps_nil, rfl, rfl, rfl, fun _ => ⟨rfl, rfl⟩⟩
  | [_], L, W, A, X, o, ks, vs, h => by unfold chkPs at h; cases h
  | a :: b :: cs, L, W, A, X, o, ks, vs, h => by
    unfold chkPs at h
    split at h
    · rename_i ek ks ev vs
      simp only [Bool.and_eq_true] at h
      obtain ⟨⟨h1, h2⟩, h3⟩ := h
      obtain ⟨r1, r2, r3, r4, r5⟩ := okPp G cs L W A X o ks vs h3
      exact ⟨fun pos => pps_cons (okE G a L W A X o ek h1) (okE G b L W A X o ev h2) (r1 pos), r2, by simp [r3], by simp [r4], fun q => by cases q⟩
    · cases h
theorem okOne (G : GOk C P k cl) : ∀ (c : List CE) (L : Act) (W : WX) (A : Pl) (X : Cx) (o : Ok C L W k A X) (e : Expr), chkEs P A c [e] = true → ∃ f, PE X e (tOf C L W f) ∧ evEs cl C.tb c = fun s => (f s).bind fun r s1 => (Rs.ok ([] : List RV) s1).bind fun rs s2 => .ok (r :: rs) s2
  | [], L, W, A, X, o, e, h => by unfold chkEs at h; cases h
  | c :: cs, L, W, A, X, o, e, h => by
    unfold chkEs at h
    simp only [Bool.and_eq_true] at h
    obtain ⟨⟨h1, h2⟩, h3⟩ := h
    cases cs with
    | nil => exact ⟨_, okE G c L W A X o e h2, rfl⟩
    | cons _ _ => unfold chkEs at h3; cases h3
theorem okO (G : GOk C P k cl) : ∀ (c : Option CE) (L : Act) (W : WX) (A : Pl) (X : Cx) (o : Ok C L W k A X) (e : Option Expr), chkO P A c e = true → PO X e (tOfO C L W (evO cl C.tb c))
  | none, L, W, A, X, o, e, h => by
    unfold chkO at h
    cases e with
    | none => exact o_none
    | some _ => cases h
  | some c, L, W, A, X, o, e, h => by
    unfold chkO at h
    cases e with
    | none => cases h
    | some e => exact o_some (okE G c L W A X o e h)
theorem okTs (G : GOk C P k cl) : ∀ (c : List CE) (L : Act) (W : WX) (A : Pl) (X : Cx) (o : Ok C L W k A X) (e : List Expr), e.length ≤ 1 → chkTs P A c e = true → PTs X e (tOfB C L W (evT cl C.tb c))
  | [], L, W, A, X, o, e, hl, h => by
    unfold chkTs at h
    cases e with
    | nil => exact ⟨fun pins s σ H Q I ⟨z, p, sr, q⟩ => pts_nil.run pins s σ H Q I (q true H z (.refl sr) rfl)⟩
    | cons _ _ => cases h
  | c :: cs, L, W, A, X, o, e, hl, h => by
    unfold chkTs at h
    cases e with
    | nil => cases h
    | cons e es =>
      simp only [Bool.and_eq_true] at h
      obtain ⟨h1, h2⟩ := h
      cases es with
      | cons _ _ => simp at hl
      | nil =>
        cases cs with
        | cons _ _ => unfold chkTs at h2; cases h2
        | nil =>
          refine pts_one (PT.eq (okT G c L W A X o e h1) fun s => ?_)
          show (asB (evE cl C.tb c s)).bind _ = _
          cases asB (evE cl C.tb c s) with
          | ok b s1 => cases b <;> rfl
          | er _ _ => rfl
          | no => rfl
theorem okT (G : GOk C P k cl) : ∀ (c : CE) (L : Act) (W : WX) (A : Pl) (X : Cx) (o : Ok C L W k A X) (e : Expr), chkT P A c e = true → PT X e (tOfB C L W fun s => asB (evE cl C.tb c s))
  | .andT a b, L, W, A, X, o, e, h => by
    unfold chkT at h
    split at h
    · rename_i x y rest pos
      simp only [Bool.and_eq_true] at h
      obtain ⟨h1, h2⟩ := h
      have hb : PW X (.BoolOp .And (y :: rest) pos) (tOfB C L W fun s => asB (evE cl C.tb b s)) := by
        split at h2
        · exact pw_and1 (okT G b L W A X o _ h2)
        · exact PT.pw_bool (okT G b L W A X o _ h2)
      refine PW.pt (PW.eq (t_and (okT G a L W A X o _ h1) hb) fun s => ?_)
      show asB ((asB (evE cl C.tb a s)).bind _) = _
      rw [asB_bind]
      refine congrArg _ (funext fun d => funext fun s1 => ?_)
      cases d
      · rfl
      · exact asB_id _
    · cases h
  | .orT a b, L, W, A, X, o, e, h => by
    unfold chkT at h
    split at h
    · rename_i x y rest pos
      simp only [Bool.and_eq_true] at h
      obtain ⟨h1, h2⟩ := h
      have hb : PW X (.BoolOp .Or (y :: rest) pos) (tOfB C L W fun s => asB (evE cl C.tb b s)) := by
        split at h2
        · exact pw_or1 (okT G b L W A X o _ h2)
        · exact PT.pw_bool (okT G b L W A X o _ h2)
      refine PW.pt (PW.eq (t_or (okT G a L W A X o _ h1) hb) fun s => ?_)
      show asB ((asB (evE cl C.tb a s)).bind _) = _
      rw [asB_bind]
      refine congrArg _ (funext fun d => funext fun s1 => ?_)
      cases d
      · exact asB_id _
      · rfl
    · cases h
  | .notT a, L, W, A, X, o, e, h => by
    unfold chkT at h
    split at h
    · refine PT.eq (t_not (okT G a L W A X o _ h)) fun s => ?_
      show asB ((asB (evE cl C.tb a s)).bind _) = _
      rw [asB_bind]
      rfl
    · cases h
  | .tru a, L, W, A, X, o, e, h => by
    unfold chkT at h
    simp only [Bool.and_eq_true] at h
    obtain ⟨h1, h2⟩ := h
    refine PT.eq (t_val o.x.K (okE G a L W A X o e h2) fun w => ?_) fun s => rfl
    cases e <;> first | rfl | (simp [plainT] at h1; done) | skip
    rename_i op _ _
    cases op <;> first | rfl | (simp [plainT] at h1; done)
  | .cmp op a b, L, W, A, X, o, e, h => by
    unfold chkT at h
    split at h
    · simp only [Bool.and_eq_true, decide_eq_true_eq, Bool.not_eq_true'] at h
      obtain ⟨⟨⟨rfl, h0⟩, h1⟩, h2⟩ := h
      exact t_cmp o.x.K o.x.hu o.x.gv h0 (okE G a L W A X o _ h1) (okE G b L W A X o _ h2)
    · cases h
  | .chn q p a b c, L, W, A, X, o, e, h => by
    unfold chkT at h
    split at h
    · simp only [Bool.and_eq_true, decide_eq_true_eq, Bool.not_eq_true'] at h
      obtain ⟨⟨⟨⟨⟨rfl, rfl⟩, h0⟩, h1⟩, h2⟩, h3⟩ := h
      exact t_chn o.x.K o.x.hu o.x.gv h0 (okE G a L W A X o _ h1) (okE G b L W A X o _ h2) (okE G c L W A X o _ h3)
    · cases h
  | .ded, L, W, A, X, o, e, h => ⟨fun pins s σ H Q I ⟨_, _, _, q⟩ => by dsimp only at q; unfold evE at q; exact q.elim⟩
  | .spl ks a, L, W, A, X, o, e, h => by
    unfold chkT at h
    refine t_imp (t_spl (okT G a L W A X o e h)) (fun s b s' q => ?_) fun s x s' q => ?_
    · show (match asB (evE cl C.tb a (ro s)) with
        | .ok b _ => Rs.ok b s
        | _ => .no) = _
      unfold evE at q
      rw [if_neg (by rw [G.ab]; decide)] at q
      cases e1 : evE cl C.tb a (ro s) with
      | no => rw [e1] at q; cases q
      | er _ _ => rw [e1] at q; cases q
      | ok r p1 =>
        rw [e1] at q
        dsimp only at q
        cases e2 : valOf r with
        | none => rw [e2] at q; cases q
        | some v =>
          rw [e2] at q
          have e3 : deref p1 r = some v := by cases r <;> first | exact e2 | (obtain ⟨_, rfl⟩ := valOf_frs e2; rfl) | (cases e2; done)
          have q' : (match truV v with
            | some b => Rs.ok b s
            | none => .no) = .ok b s' := q
          show (match (match deref p1 r with
            | some x => match truV x with
              | some b => Rs.ok b p1
              | none => .no
            | none => .no) with
            | .ok b _ => Rs.ok b s
            | _ => .no) = _
          rw [e3]
          dsimp only
          cases e4 : truV v with
          | none => rw [e4] at q'; cases q'
          | some b' => rw [e4] at q'; exact q'
    · unfold evE at q
      rw [if_neg (by rw [G.ab]; decide)] at q
      cases e1 : evE cl C.tb a (ro s) with
      | no => rw [e1] at q; cases q
      | er _ _ => rw [e1] at q; cases q
      | ok r p1 =>
        rw [e1] at q
        dsimp only at q
        cases e2 : valOf r with
        | none => rw [e2] at q; cases q
        | some v =>
          rw [e2] at q
          have q' : (match truV v with
            | some b => Rs.ok b s
            | none => .no) = .er x s' := q
          cases e4 : truV v with
          | none => rw [e4] at q'; cases q'
          | some b' => rw [e4] at q'; cases q'
  | .lamc _ _, L, W, A, X, o, e, h => by unfold chkT at h; cases h
  | .dct _, L, W, A, X, o, e, h => by unfold chkT at h; cases h
  | .fz _, L, W, A, X, o, e, h => by unfold chkT at h; cases h
  | .fst _, L, W, A, X, o, e, h => by unfold chkT at h; cases h
  | .fmt _ _, L, W, A, X, o, e, h => by unfold chkT at h; cases h
  | .var _, L, W, A, X, o, e, h => by unfold chkT at h; cases h
  | .bor _, L, W, A, X, o, e, h => by unfold chkT at h; cases h
  | .cst _, L, W, A, X, o, e, h => by unfold chkT at h; cases h
  | .bin _ _ _, L, W, A, X, o, e, h => by unfold chkT at h; cases h
  | .neg _, L, W, A, X, o, e, h => by unfold chkT at h; cases h
  | .not _, L, W, A, X, o, e, h => by unfold chkT at h; cases h
  | .and _ _, L, W, A, X, o, e, h => by unfold chkT at h; cases h
  | .or _ _, L, W, A, X, o, e, h => by unfold chkT at h; cases h
  | .ife _ _ _, L, W, A, X, o, e, h => by unfold chkT at h; cases h
  | .tup _, L, W, A, X, o, e, h => by unfold chkT at h; cases h
  | .lst _, L, W, A, X, o, e, h => by unfold chkT at h; cases h
  | .sub _ _, L, W, A, X, o, e, h => by unfold chkT at h; cases h
  | .slc _ _ _, L, W, A, X, o, e, h => by unfold chkT at h; cases h
  | .cal _ _, L, W, A, X, o, e, h => by unfold chkT at h; cases h
  | .bui _ _, L, W, A, X, o, e, h => by unfold chkT at h; cases h
  | .rev _, L, W, A, X, o, e, h => by unfold chkT at h; cases h
  | .lc _ _ _ _ _ _, L, W, A, X, o, e, h => by unfold chkT at h; cases h
  | .dcp _ _ _ _ _ _ _, L, W, A, X, o, e, h => by unfold chkT at h; cases h
  | .fld _ _ _, L, W, A, X, o, e, h => by unfold chkT at h; cases h
  | .isC _ _, L, W, A, X, o, e, h => by unfold chkT at h; cases h
  | .mk _ _ _, L, W, A, X, o, e, h => by unfold chkT at h; cases h
  | .srk _ _, L, W, A, X, o, e, h => by unfold chkT at h; cases h
  | .lsx _ _, L, W, A, X, o, e, h => by unfold chkT at h; cases h
  | .ind _ _, L, W, A, X, o, e, h => by unfold chkT at h; cases h
  | .cav _ _, L, W, A, X, o, e, h => by unfold chkT at h; cases h
  | .lcw _ _ _ _, L, W, A, X, o, e, h => by unfold chkT at h; cases h
end
end
end Mp

/-! MpIn1: own exceptions that are made by their own __init__ over any built-in base. -/
namespace Mp
open PySem PySem.Spec L2
/-- nB: the built-in that makes, iB: the built-in whose __init__ is called by super() -/
structure Bse (nB nId iB iId : String) (bm : List Value) : Prop where
  nw : ∃ (j : String) (l : List Value), ExcBaseFacts nB nId j l
  kd : builtinKind iId = some .slot
  rw_ : Manifest.signature? iId = some ⟨.positional, "*", iB, .self, [⟨"args", .varPos, false⟩]⟩
  st : (iB != "*") = true
  en : entryFor table iId = some Builtin.«BaseException.__init__»
  pl : plainId iId = true
  su : PySem.W.KxsFacts iB iId
  cB : bm.contains (.type nB) = true
  cA : bm.contains (.type "AttributeError") = false
  cN : bm.contains (.type "NameError") = false
  cI : bm.contains (.type iB) = true
  cO : bm.contains (.type "object") = true
  rf : ∀ self : Value, refuseLoop self "__setattr__" bm = pure ()
  al : ∀ K : PySem.W.Frag, PySem.W.alongIn K "__init__" bm = some (some (.builtin iId))
theorem bse_key : Bse "LookupError" "LookupError.__new__" "KeyError" "KeyError.__init__" [.type "KeyError", .type "LookupError", .type "Exception", .type "BaseException", .type "object"] where
  nw := ⟨_, _, PySem.F.excBase_LookupError⟩
  kd := by kernel_rfl
  rw_ := by kernel_rfl
  st := by decide +kernel
  en := entryFor_alias (id' := "BaseException.__init__") (by rw [fastTable_eq_tree]; kernel_rfl) (by first | rfl | decide +kernel) (by decide +kernel) (by rw [fastTable_eq_tree]; kernel_rfl)
  pl := by decide +kernel
  su := ⟨by show builtinType _ = _; rw [builtinType_eq_fast]; kernel_rfl, by first | kernel_rfl | rfl⟩
  cB := by decide +kernel
  cA := by decide +kernel
  cN := by decide +kernel
  cI := by decide +kernel
  cO := by decide +kernel
  rf := fun self => by kernel_rfl
  al := fun K => by kernel_rfl
theorem bse_index : Bse "IndexError" "IndexError.__new__" "IndexError" "IndexError.__init__" [.type "IndexError", .type "LookupError", .type "Exception", .type "BaseException", .type "object"] where
  nw := ⟨_, _, PySem.F.excBase_IndexError⟩
  kd := by kernel_rfl
  rw_ := by kernel_rfl
  st := by decide +kernel
  en := entryFor_alias (id' := "BaseException.__init__") (by rw [fastTable_eq_tree]; kernel_rfl) (by first | rfl | decide +kernel) (by decide +kernel) (by rw [fastTable_eq_tree]; kernel_rfl)
  pl := by decide +kernel
  su := ⟨by show builtinType _ = _; rw [builtinType_eq_fast]; kernel_rfl, by first | kernel_rfl | rfl⟩
  cB := by decide +kernel
  cA := by decide +kernel
  cN := by decide +kernel
  cI := by decide +kernel
  cO := by decide +kernel
  rf := fun self => by kernel_rfl
  al := fun K => by kernel_rfl
theorem bse_over : Bse "OverflowError" "OverflowError.__new__" "OverflowError" "OverflowError.__init__" [.type "OverflowError", .type "ArithmeticError", .type "Exception", .type "BaseException", .type "object"] where
  nw := ⟨_, _, PySem.F.excBase_OverflowError⟩
  kd := by kernel_rfl
  rw_ := by kernel_rfl
  st := by decide +kernel
  en := entryFor_alias (id' := "BaseException.__init__") (by rw [fastTable_eq_tree]; kernel_rfl) (by first | rfl | decide +kernel) (by decide +kernel) (by rw [fastTable_eq_tree]; kernel_rfl)
  pl := by decide +kernel
  su := ⟨by show builtinType _ = _; rw [builtinType_eq_fast]; kernel_rfl, by first | kernel_rfl | rfl⟩
  cB := by decide +kernel
  cA := by decide +kernel
  cN := by decide +kernel
  cI := by decide +kernel
  cO := by decide +kernel
  rf := fun self => by kernel_rfl
  al := fun K => by kernel_rfl
theorem bse_arith : Bse "ArithmeticError" "ArithmeticError.__new__" "ArithmeticError" "ArithmeticError.__init__" [.type "ArithmeticError", .type "Exception", .type "BaseException", .type "object"] where
  nw := ⟨_, _, PySem.F.excBase_ArithmeticError⟩
  kd := by kernel_rfl
  rw_ := by kernel_rfl
  st := by decide +kernel
  en := entryFor_alias (id' := "BaseException.__init__") (by rw [fastTable_eq_tree]; kernel_rfl) (by first | rfl | decide +kernel) (by decide +kernel) (by rw [fastTable_eq_tree]; kernel_rfl)
  pl := by decide +kernel
  su := ⟨by show builtinType _ = _; rw [builtinType_eq_fast]; kernel_rfl, by first | kernel_rfl | rfl⟩
  cB := by decide +kernel
  cA := by decide +kernel
  cN := by decide +kernel
  cI := by decide +kernel
  cO := by decide +kernel
  rf := fun self => by kernel_rfl
  al := fun K => by kernel_rfl
theorem bse_look : Bse "LookupError" "LookupError.__new__" "LookupError" "LookupError.__init__" [.type "LookupError", .type "Exception", .type "BaseException", .type "object"] where
  nw := ⟨_, _, PySem.F.excBase_LookupError⟩
  kd := by kernel_rfl
  rw_ := by kernel_rfl
  st := by decide +kernel
  en := entryFor_alias (id' := "BaseException.__init__") (by rw [fastTable_eq_tree]; kernel_rfl) (by first | rfl | decide +kernel) (by decide +kernel) (by rw [fastTable_eq_tree]; kernel_rfl)
  pl := by decide +kernel
  su := ⟨by show builtinType _ = _; rw [builtinType_eq_fast]; kernel_rfl, by first | kernel_rfl | rfl⟩
  cB := by decide +kernel
  cA := by decide +kernel
  cN := by decide +kernel
  cI := by decide +kernel
  cO := by decide +kernel
  rf := fun self => by kernel_rfl
  al := fun K => by kernel_rfl
section
variable {M : Model} {A : Around} {E : Value → Shared → Prop} {h : Heap} {g : Array GenState} {d : Drawn} {t : Nat} {os : OsState}
variable {nm q : Str} {C N : Addr} {bs bm : List Value} {hdct : Bool} {sn : List Str} {sub : List Value} {ab : Bool} {col : Option Bool} {dd : Option Addr} {k0 k1 k2 k3 k5 : Option Value} {nB nId iB iId : String}
/-- the class at C -/
abbrev clsAt (h : Heap) (nm q : Str) (C N : Addr) (bs bm : List Value) (hdct : Bool) (sn : List Str) (sub : List Value) (ab : Bool) (col : Option Bool) (dd : Option Addr) (k0 k1 k2 k3 k5 : Option Value) (nId : String) : Prop := h.get? C = some (excClassObj nm q C N bs bm hdct sn sub ab col dd k0 k1 k2 k3 k5 nId)
theorem chk_new {j : String} {l : List Value} (F : ExcBaseFacts nB nId j l) (hB : (Value.ref C :: bm).contains (.type nB) = true) {rest : List Value} {Q : Unit → Shared → Prop} (hC : clsAt h nm q C N bs bm hdct sn sub ab col dd k0 k1 k2 k3 k5 nId) (hq : Q () ⟨h, g, d, t, os⟩) : wpAny M A (checkBuiltinCall nId ⟨.ref C :: rest, []⟩) Q E ⟨h, g, d, t, os⟩ := by
  have star := F.noStar
  simp only [checkBuiltinCall, F.newKind, F.newSplit, F.newRow]
  repeat (first
    | refine wpAny_loadPart_at hC ?_
    | (refine wpAny_isSubtype_exc hC ?_; rw [hB])
    | refine wpAny_staticBase_exc hC ?_
    | refine wpAny_madeBy_exc hC ?_
    | simp only [bne_self_eq_false, Bool.false_eq_true, if_false]
    | wp_step)
  exact hq
/-- iId(e, ..) by a method-wrapper -/
theorem chk_bound {bb : List Value} (F : Bse nB nId iB iId bb) {e : Addr} {oe : Obj} {rest : List Value} {Q : Unit → Shared → Prop} (hC : clsAt h nm q C N bs bm hdct sn sub ab col dd k0 k1 k2 k3 k5 nId) (he : h.get? e = some oe) (hc : oe.cls = .ref C) (hq : Q () ⟨h, g, d, t, os⟩) : wpAny M A (checkBoundCall iId ⟨.ref e :: rest, []⟩) Q E ⟨h, g, d, t, os⟩ := by
  have star := F.st
  simp only [checkBoundCall, F.kd, F.rw_]
  repeat (first
    | (with_reducible refine wpAny_loadPart_at he ?_; rw [hc])
    | with_reducible refine wpAny_loadPart_at hC ?_
    | wp_step)
  apply wpAny_onRaise
  rw [show ∀ (a b : String) (n : Nat), Bind.check ⟨.positional, "*", iB, .self, [⟨"args", .varPos, false⟩]⟩ a b n (List.map (fun x => x.fst) ({ pos := Value.ref e :: rest } : Args).kw) = pure () from fun a b n => check_star_args _ _ _ _ _ _]
  exact wpAny_pure hq
end
section
variable {prog : Program} {w : World} {A : Around} {E : Value → Shared → Prop} {R : Result → Shared → Prop} {h : Heap} {g : Array GenState} {d : Drawn} {t : Nat} {os : OsState}
variable {nm q : Str} {C N : Addr} {bs bm : List Value} {hdct : Bool} {sn : List Str} {sub : List Value} {ab : Bool} {col : Option Bool} {dd : Option Addr} {k0 k1 k2 k3 k5 : Option Value} {nB nId iB iId : String}
open PySem.HandSPX in
theorem run_new {j : String} {l : List Value} (F : ExcBaseFacts nB nId j l) (hB : (Value.ref C :: bm).contains (.type nB) = true) (hA : (Value.ref C :: bm).contains (.type "AttributeError") = false) (hN : (Value.ref C :: bm).contains (.type "NameError") = false) {rest : List Value}
    (hC : clsAt h nm q C N bs bm hdct sn sub ab col dd k0 k1 k2 k3 k5 nId)
    (hq : R (.ok (.ret (.ref (h.objs.size + 1)))) ⟨(h.push (PySem.W.kdv_tup rest)).push (excO C h.objs.size), g, d, t, os⟩) (hr : rest.length ≤ sizeLine) : codeAny (model prog w) A (.builtin nId ⟨.ref C :: rest, []⟩) R ⟨h, g, d, t, os⟩ := by
  have ends := F.ends
  apply codeAny_builtinAt F.entry
  unfold Builtin.«BaseException.__new__»
  apply PySem.wpAt_bind
  show PySem.wpAt _ _ _ (stack >>= _) _ _ _
  refine PySem.wpAt_bind (wpAt_stack fun p below => wpAt_of_wpAny ?_)
  wp_walk
  apply wpAt_of_wpAny
  rw [F.owner]
  repeat (first
    | with_reducible refine wpAny_madeHere_exc F.canon hC ?_
    | with_reducible refine wpAny_loadPart_at hC ?_
    | (with_reducible refine wpAny_isSubtype_exc hC ?_; first | rw [hB] | rw [hA] | rw [hN])
    | wp_step)
  show R _ _
  rw [Heap.size_push]
  exact hq
open PySem.HandSPX in
theorem run_tcall {j : String} {l : List Value} (F : ExcBaseFacts nB nId j l) (hB : (Value.ref C :: bm).contains (.type nB) = true) (hA : (Value.ref C :: bm).contains (.type "AttributeError") = false) (hN : (Value.ref C :: bm).contains (.type "NameError") = false) {rest : List Value} {fI : Addr} {Q : Fin → Shared → Prop}
    (hC : clsAt h nm q C N bs bm hdct sn sub ab col dd k0 k1 k2 k3 k5 nId) (hi : PySem.W.Looks (model prog w) h (typeLookup (.ref C) "__init__") (some (.ref fI))) (hb : ∀ self, PySem.W.Looks (model prog w) h (bindSpecial (.ref fI) self) (.ref fI, [self])) (hr : rest.length ≤ sizeLine)
    (hq : codeAny (model prog w) A (.call (.ref fI) ⟨.ref (h.objs.size + 1) :: rest, []⟩) (fun r s' => match r with
      | .ok (.ret v) => v = .none ∧ Q (.done (.ret (.ref (h.objs.size + 1)))) s'
      | .ok _ => False
      | .error e => E e s') ⟨(h.push (PySem.W.kdv_tup rest)).push (excO C h.objs.size), g, d, t, os⟩) :
    wpAny (model prog w) A (Builtin.«type.__call__» ⟨.ref C :: rest, []⟩) Q E ⟨h, g, d, t, os⟩ := by
  repeat (first
    | with_reducible refine wpAny_loadPart_at hC ?_
    | with_reducible refine wpAny_madeBy_exc hC ?_
    | wp_step)
  apply codeAny_call_builtin_code (Code.quiet_builtin _ F.quiet)
  apply chk_new F hB hC
  refine run_new F hB hA hN hC ?_ hr
  show wpAny _ _ _ _ _ _
  have kp : ∀ b o, h.get? b = some o → ((h.push (PySem.W.kdv_tup rest)).push (excO C h.objs.size)).get? b = some o := fun b o e => Heap.get?_push_of_some _ (Heap.get?_push_of_some _ e)
  have hC1 := kp _ _ hC
  have hget : ((h.push (PySem.W.kdv_tup rest)).push (excO C h.objs.size)).get? (h.objs.size + 1) = some (excO C h.objs.size) := by heap_get
  have hcC : (Value.ref C :: bm).contains (.ref C) = true := by simp
  have i1 := hi.keeps kp
  have b1 := (hb (.ref (h.objs.size + 1))).keeps kp
  unfold isInstance
  repeat (first
    | with_reducible refine wpAny_loadPart_at hget ?_
    | (with_reducible refine wpAny_isSubtype_exc hC1 ?_; rw [hcC])
    | wp_step)
  show wpAny _ _ (typeLookup (.ref C) _) _ _ _
  apply i1.at
  apply wpAny_holding
  apply wpAny_bind
  apply b1.at
  apply wpAny_bind
  apply wpAny_call
  apply codeAny_mono hq
  intro r s' z
  rcases r with e | (v | _ | _ | _) <;> first | exact z | exact z.elim | skip
  obtain ⟨rfl, z⟩ := z
  first
    | exact wpAny_pure (wpAny_pure z)
    | (wp_walk; exact z)
open PySem.HandSPX in
/-- C(..): made, then handed to its own __init__ -/
theorem run_make {j : String} {l : List Value} (F : ExcBaseFacts nB nId j l) (hB : (Value.ref C :: bm).contains (.type nB) = true) (hA : (Value.ref C :: bm).contains (.type "AttributeError") = false) (hN : (Value.ref C :: bm).contains (.type "NameError") = false) {rest : List Value} {fI : Addr}
    (hC : clsAt h nm q C N bs bm hdct sn sub ab col dd k0 k1 k2 k3 k5 nId) (hi : PySem.W.Looks (model prog w) h (typeLookup (.ref C) "__init__") (some (.ref fI))) (hb : ∀ self, PySem.W.Looks (model prog w) h (bindSpecial (.ref fI) self) (.ref fI, [self])) (hr : rest.length ≤ sizeLine)
    (hq : codeAny (model prog w) (A.under (.builtin "type.__call__" ⟨.ref C :: rest, []⟩)) (.call (.ref fI) ⟨.ref (h.objs.size + 1) :: rest, []⟩) (PySem.W.InitBack (h.objs.size + 1) R) ⟨(h.push (PySem.W.kdv_tup rest)).push (excO C h.objs.size), g, d, t, os⟩) :
    codeAny (model prog w) A (.call (.ref C) ⟨rest, []⟩) R ⟨h, g, d, t, os⟩ := by
  have f1 := tc_lookup
  have f2 := tc_bind (.ref C)
  have hTy : (⟨h, g, d, t, os⟩ : Shared).TypeIs (.ref C) "type" := ⟨_, hC, rfl⟩
  apply codeAny_of_tree
  show wpAny _ _ (callAny (.ref C) _) _ _ _
  repeat (any_goals (first
    | assumption
    | with_reducible refine wpAny_loadPart_at hC ?_
    | wp_step))
  refine ⟨rfl, ?_⟩
  apply codeAny_call_builtin_at (Code.quiet_builtin _ (by decide +kernel)) entry_typeCall
  apply wpAny_check_type_call_sub hC
  apply run_tcall F hB hA hN hC hi hb hr
  apply codeAny_mono hq
  intro r s' z
  rcases r with e | (v | _ | _ | _) <;> exact z
end
end Mp

/-! MpIn2: the first field of an own exception; super().__init__(..) called. -/
namespace Mp
open PySem PySem.Spec L2
section
open Builtin Builtin.ObjectAttr
variable {prog : Program} {w : World} {A : Around} {R : Result → Shared → Prop} {hp : Heap} {g : Array GenState} {d : Drawn} {t : Nat} {os : OsState}
theorem osa_any {K : PySem.W.Frag} {name : Str} {tk : Tok} {v : Value} {x C : Addr} {fv : Array Value} {cd : ClassData} {bm : List Value}
    (X : K.In hp) (hx : hp.get? x = some { cls := .ref C, data := .fields fv }) (hcd : PySem.W.clsIn K C = some cd) (hm : cd.mro = .ref C :: bm) (hob : bm.contains (.type "object") = true) (hp0 : ∀ self : Value, refuseLoop self "__setattr__" bm = pure ()) (hh : cd.hasDict = true) (ha : PySem.W.findIn K (.ref C) name = some none)
    (hq : ∀ h' tk' dx, (∀ b o, b ≠ x → hp.get? b = some o → h'.get? b = some o) → hp.objs.size ≤ dx → dx ≠ x → h'.get? x = some { cls := .ref C, dict := some dx, data := .fields fv } → h'.Ns1 dx (fun y => if y = name then some v else none) → R (.ok (.ret .none)) ⟨h', g, d, tk', os⟩) :
    codeAny (model prog w) A (.call (.builtin "object.__setattr__") ⟨[.ref x, .str name tk, v], []⟩) R ⟨hp, g, d, t, os⟩ := by
  have I : PySem.W.InstAt hp x { cls := .ref C, data := .fields fv } C none := ⟨hx, rfl, rfl, trivial⟩
  have SF := F.store_object
  have ne : cd.mro.isEmpty = false := by rw [hm]; rfl
  have hxs : x ≠ hp.objs.size := Nat.ne_of_lt (Heap.lt_size hx)
  have sub : PySem.W.Looks (model prog w) hp (isInstance (.ref x) (.type "object")) true := I.type.andThen (PySem.W.looks_mroIn X (by
    unfold PySem.W.mroIn
    rw [hcd, Option.bind_some, if_neg (by rw [ne]; decide), hm, List.contains_cons, hob, Bool.or_true]))
  apply codeAny_call_builtin SF.slot.plain SF.entry
  apply @PySem.W.check_slot (model prog w) _ _ ⟨hp, g, d, t, os⟩ "object.__setattr__" "object" "__setattr__" (.ref x) [.str name tk, v] [] _ SF.kind SF.split sub (SF.args (.ref x) (.str name tk) v)
  have hmr : PySem.W.Looks (model prog w) hp (mroOf (.ref C)) cd.mro := (PySem.W.looks_clsIn X hcd).andThen .now
  have L3 : PySem.W.Looks (model prog w) hp (storeTaker? none) none := .now
  have hcls : PySem.W.Looks (model prog w) hp (classData C) cd := PySem.W.looks_clsIn X hcd
  rw [PySem.W.osa_eq, refuse_eq]
  apply wpAny_bind
  apply wpAny_bind
  apply I.type.at
  apply wpAny_bind
  apply hmr.at
  rw [hm, refuseLoop_ref, hp0]
  refine wpAny_pure (wpAny_bind (I.type.at (wpAny_bind ((PySem.W.looks_findIn X ha).at (wpAny_bind (L3.at ?_))))))
  show wpAny _ _ (storeInOwnDict (.ref x) (.ref C) (.str name tk) name v false) _ _ _
  obtain ⟨nm, bs, mro, ns, qn, hd, sn, sb, ab, col, del⟩ := cd
  dsimp only at hh
  subst hh
  unfold storeInOwnDict ownDictForStores
  repeat (first
    | with_reducible refine PySem.HandSPX.store_in_new ?_ ?_
    | with_reducible refine wpAny_loadPart_at hx ?_
    | with_reducible refine hcls.at ?_
    | wp_step)
  · exact ⟨_, #[], _, (Heap.get?_update_ne _ _ _ _ hxs.symm).trans (Heap.get?_push_at rfl rfl), rfl, fun e he => absurd he (by simp), fun _ => rfl⟩
  · intro h' tk' hn' hs
    have hx1 : (hp.push { cls := .type "dict", data := .dict #[] }).get? x = some { cls := .ref C, data := .fields fv } := Heap.get?_push_of_some _ hx
    refine hq h' tk' hp.objs.size (fun b o hb ho => ?_) (Nat.le_refl _) hxs.symm ?_ hn'
    · exact (hs.2 b (Nat.ne_of_lt (Heap.lt_size ho))).trans ((Heap.get?_update_ne _ _ _ _ hb).trans (Heap.get?_push_of_some _ ho))
    · exact (hs.2 x hxs).trans (Heap.get?_update_self _ hx1 rfl)
end
/-- what the written part says of a class of errors that has its own __init__ -/
structure IniC (K : PySem.W.Frag) (C : Addr) : Prop where
  ex : ∃ (nB nId iB iId : String) (bm : List Value), Bse nB nId iB iId bm ∧ ∃ nm q N bs sn sub ab col dd k0 k1 k2 k3 k5, K.lookup C = some (excClassObj nm q C N bs bm true sn sub ab col dd k0 k1 k2 k3 k5 nId)
  sa : PySem.W.findIn K (.ref C) "__setattr__" = some (some (.builtin "object.__setattr__"))
  sb : PySem.W.subIn K (.ref C) (.type "BaseException") = some true
  ty : PySem.W.typeIn K (.ref C) = some (.type "type")
  kp : PySem.W.keepIn K (.ref C) = true
section
variable {X : Cx} {pins : List (Addr × Obj)} {σ : L2.St} {H : Hp} {s : Shared} {a C dx : Addr} {f : Str} {y : V} {u : Value} {Q : Unit → Shared → Prop} {E : Value → Shared → Prop} {A : Around}
theorem IniC.cls {K : PySem.W.Frag} (T : IniC K C) : ∃ (bm : List Value) (cd : ClassData), PySem.W.clsIn K C = some cd ∧ cd.mro = .ref C :: bm ∧ cd.hasDict = true ∧ bm.contains (.type "object") = true ∧ ∀ self : Value, refuseLoop self "__setattr__" bm = pure () := by
  obtain ⟨nB, nId, iB, iId, bm, F, nm, q, N, bs, sn, sub, ab, col, dd, k0, k1, k2, k3, k5, hC⟩ := T.ex
  exact ⟨bm, { name := nm, bases := bs, mro := .ref C :: bm, ns := N, qualname := q, hasDict := true, slotNames := sn, subclasses := sub, abstract := ab, collection := col, hasDel := false }, by unfold PySem.W.clsIn; rw [hC] <;> rfl, rfl, rfl, F.cO, F.rf⟩
/-- self.f = y, the first field -/
theorem fld_new (T : IniC X.K C) (I : Inv X pins σ H s) (e : H a = some (exo a C none)) (hno : PySem.W.findIn X.K (.ref C) f = some none) (ry : RelV y u)
    (h : ∀ dx s', H dx = none → dx ≠ a → Inv X pins σ (upd (upd H dx (exd dx [(f, y)])) a (exo a C (some dx))) s' → Q () s') : wpAny (model X.prog X.w) A (setAttr (.ref a) f u) Q E s := by
  obtain ⟨bm, cd, hcl, hm, hh, hob, hrf⟩ := T.cls
  obtain ⟨t1, ho⟩ := exo_at I.hok e
  obtain ⟨hp, g, d, t, os⟩ := s
  apply PySem.W.set_plain I.kIn (ox := { cls := .ref C, dict := none, data := .fields #[.ref t1, .none, .none, .none, .bool false, .none] }) (od := none) ⟨ho, rfl, rfl, trivial⟩ T.sa
  apply osa_any I.kIn ho hcl hm hob hrf hh hno
  intro h' tk' dx k dn dne hx hn
  have hnd : H dx = none := I.hok.fresh dn
  have nd : ∀ {b : Addr} {o : Obj}, hp.get? b = some o → b ≠ dx := fun {b o} q => Nat.ne_of_lt (Nat.lt_of_lt_of_le (Heap.lt_size q) dn)
  have na : ∀ {b : Addr}, H b = none → b ≠ a := fun {b} n z => by rw [z, e] at n; cases n
  have U1 : Un X.fs [] H (upd (upd H dx (exd dx [(f, y)])) a (exo a C (some dx))) hp h' := {
    keep := fun b o q n _ _ => k b o (na n) q
    slot := fun b o q n _ _ => ⟨o.slots, k b o (na n) q⟩
    free := fun b o q n _ => by rw [upd_ne (na n), upd_ne (nd q)]; exact n
    there := fun b o q _ => by
      by_cases hb : b = a
      · exact ⟨_, by rw [hb]; exact hx⟩
      · exact ⟨o, k b o hb q⟩
    tups := fun b xs q => by rw [upd_ne (at_ne e q exo_tup), upd_ne (ne_of_none q hnd)]; exact q
    frzs := fun b o v q => by rw [upd_ne (at_ne e q exo_frz), upd_ne (ne_of_none q hnd)]; exact q
    tbls := fun b ps q => ⟨#[], by rw [upd_ne (at_ne e q exo_tbl), upd_ne (ne_of_none q hnd), q]; simp⟩ }
  refine h dx _ hnd dne (I.un (t' := tk') U1 fun b o q => ?_)
  by_cases hb : b = a
  · subst hb
    rw [upd_same] at q
    cases q
    exact exo_ok hx
  · rw [upd_ne hb] at q
    by_cases hd : b = dx
    · subst hd
      rw [upd_same] at q
      cases q
      exact exd_ok hn (relO_put (fs := []) ry fun g => True.intro)
    · rw [upd_ne hd] at q
      refine (I.hok b o q).stay (fun c v hc z => k c v (by
          rcases hc with hc | hc
          · rw [hc]; exact hb
          · exact at_ne e hc exo_own) z) (fun c hc => ?_) fun c xs hc => ?_
      · rw [upd_ne (at_ne e hc exo_own), upd_ne (ne_of_none hc hnd)]; exact hc
      · rw [upd_ne (at_ne e hc exo_tup), upd_ne (ne_of_none hc hnd)]; exact hc
end
section
open PySem.W
variable {X : Cx} {pins : List (Addr × Obj)} {σ : L2.St} {H : Hp} {s : Shared} {a C q0 : Addr} {us : List Value} {Q : Value → Shared → Prop} {E : Value → Shared → Prop} {A : Around} {nB nId iB iId : String} {bm : List Value}
/-- the bound __init__ of the base called -/
theorem mw_call (F : Bse nB nId iB iId bm) (hC : ∃ nm q N bs sn sub ab col dd k0 k1 k2 k3 k5, X.K.lookup C = some (excClassObj nm q C N bs bm true sn sub ab col dd k0 k1 k2 k3 k5 nId)) (I : Inv X pins σ H s) (e : H a = some (exo a C none)) (hu : s.heap.get? q0 = some (kxs_mw iId a)) (hl : us.length ≤ sizeLine)
    (h : ∀ s', Inv X pins σ H s' → Q .none s') : wpAny (model X.prog X.w) A (call (.ref q0) us) Q E s := by
  obtain ⟨nm, q, N, bs, sn, sub, ab, col, dd, k0, k1, k2, k3, k5, hC⟩ := hC
  obtain ⟨t1, ho⟩ := exo_at I.hok e
  have hC' := I.kIn _ _ hC
  obtain ⟨hp, g, d, t, os⟩ := s
  have fin : ∀ h' t2, (∀ b o, b ≠ a → hp.get? b = some o → h'.get? b = some o) → h'.get? a = some (PySem.HandSPX.excO C t2) → Q .none ⟨h', g, d, t, os⟩ := by
    intro h' t2 k hx
    have J := I.write (t' := t) (x := a) (e := a) (o := exo a C none) (by rw [e]; exact True.intro) (.inl rfl) k ⟨_, hx⟩ (exo_ok hx)
    have eu : upd H a (exo a C none) = H := by
      funext b
      by_cases hb : b = a
      · rw [hb, upd_same, e]
      · rw [upd_ne hb]
    rw [eu] at J
    exact h _ J
  apply wpAny_call
  apply codeAny_of_tree
  show wpAny _ A.in1 (callAny (.ref q0) ⟨us, []⟩) _ _ _
  simp only [callAny]
  apply wpAny_bind
  apply wpAny_load hu
  simp only [kxs_mw, show (Value.type "method-wrapper" == Value.type "method" || Value.type "method-wrapper" == Value.type "builtin_function_or_method" || Value.type "method-wrapper" == Value.type "method-wrapper") = true by decide, if_true]
  apply PySem.W.KFB.if_so (by decide)
  apply wpAny_bind
  apply chk_bound F hC' ho rfl
  refine wpAny_pure ⟨plainId_quiet F.pl _, codeAny_builtin F.en ?_⟩
  rw [Around.under_plainId F.pl _]
  wp_walk
  refine fin _ hp.objs.size (fun b o hb ho2 => ?_) ?_
  · rw [Heap.get?_update_other _ _ (Ne.symm hb)]
    exact Heap.get?_push_of_some _ ho2
  · rw [Heap.get?_update_self _ (Heap.get?_push_of_some _ ho) rfl]
    rfl
end
end Mp

/-! MpIn3: an own __init__ that says super().__init__(..) and keeps its argument. -/
namespace Mp
open PySem PySem.Spec PyProof.Rows L2 RZ
/-- no module from outside -/
def NoThird (h : Heap) : Prop := ∃ o, h.get? cStatics = some o ∧ PySem.W.nsIn [(cStatics, o)] cStatics "thirdparty.any" = some none
/-- the __init__ of the class at A, its core d: what is kept, in f -/
structure IniAt (C : Ctx) (P : Tb) (d : Fd) (A : Addr) (f : Str) (fI cc cda : Addr) (name qual : Str) (a1 a2 : Arg) (e : Expr) (p0 p1 p2 p3 p4 p5 p6 p7 p8 : Pos) (scope : Scope) (doc pm ct oc : Value) (an od : Option Addr) (osl : Array (Option Value)) (E : CE) : Prop where
  fi : PySem.W.findIn C.K (.ref A) "__init__" = some (some (.ref fI))
  ti : PySem.W.typeIn C.K (.ref fI) = some (.type "function")
  lk : C.K.lookup fI = some ⟨oc, od, .func (PySem.W.fnX name qual ⟨[], [a1, a2], none, [], [], none, []⟩ [.Expr (.Call (.Attribute (.Call (.Name "super" p0) [] [] p1) "__init__" p2) [e] [] p3) p4, .Assign [.Attribute (.Name a1.arg p5) f p6] (.Name a2.arg p7) p8] scope [("__class__", cc)] .none .none doc pm an (.ref cda) ct), osl⟩
  cd : PySem.W.codeIn C.K (.ref cda) qual = true
  rec_ : ∃ (vs : Array Value) (file : Str) (tf : Tok) (ccl : Value) (cdd : Option Addr) (ccs : Array (Option Value)), C.K.lookup cda = some ⟨ccl, cdd, .fields vs, ccs⟩ ∧ vs[2]? = some (.str file tf) ∧ ((C.P.main.file : Str) == file) = true
  cell : ∃ (cl : Value) (cld : Option Addr) (csl : Array (Option Value)), C.K.lookup cc = some ⟨cl, cld, .cell (some (.ref A)), csl⟩
  N : d.N = [a1.arg, a2.arg, "__class__"]
  np : d.np = 2
  body : d.body = [.exp E]
  sc : NdefX.NScope d.N [a1.arg, a2.arg] ["__class__"] scope
  sup : scope.names.lookup ("super" : Str) = some .globalImplicit
  chk : chkE P ⟨scope, d.N, [], false, false, []⟩ E e = true
  star : noStar e = true
  line : (p2.endLine == p3.line) = true
  o1 : okName a1.arg = true
  o2 : okName a2.arg = true
  top : (C.P.main.scope.names.lookup ("super" : Str)).isSome = false
  mg : C.mg "super" = none
theorem bind_ini {name qual : Str} {a1 a2 : Arg} {body : List Stmt} {scope : Scope} {cl : List (Str × Addr)} {doc pm cdv ct : Value} {an : Option Addr} {x y : Value} {s : Shared} (hn : a1.arg ≠ a2.arg) :
    BindsTo s (PySem.W.fnX name qual ⟨[], [a1, a2], none, [], [], none, []⟩ body scope cl .none .none doc pm an cdv ct) ⟨[x, y], []⟩ [(a1.arg, x), (a2.arg, y)] := by
  refine .of_eq ?_
  have h1 : (a2.arg == a1.arg) = false := by simpa using Ne.symm hn
  have h2 : (a1.arg == a1.arg) = true := beq_self_eq_true _
  have h3 : (a2.arg == a2.arg) = true := beq_self_eq_true _
  unfold bindArgs
  simp only [PySem.W.fnX, List.map, List.zip, List.zipWith, List.append, List.nil_append, List.length, List.lookup, h1, h2, h3]
  simp [seqItems?, List.lookup, h1, h2, h3]
  rfl
theorem exo_codeO {a A : Addr} {q : Str} : (exo a A none : HO) ≠ LamX.CodeO a q := by
  intro z
  have z' : HO.ext (fun h => ∃ t1 : Addr, h.get? a = some ({ cls := .ref A, dict := none, data := .fields #[.ref t1, .none, .none, .none, .bool false, .none] } : Obj)) = HO.ext (fun h => ∃ (oc : Obj) (vs : Array Value) (t : Tok), h.get? a = some oc ∧ oc.data = .fields vs ∧ vs[1]? = some (.str q t)) := z
  have e := HO.ext.inj z'
  have e2 := congrFun e ⟨Array.replicate (a + 1) { cls := .ref A, dict := none, data := .fields #[.ref 0, .none, .none, .none, .bool false, .none] }, {}⟩
  have g : Heap.get? ⟨Array.replicate (a + 1) ({ cls := .ref A, dict := none, data := .fields #[.ref 0, .none, .none, .none, .bool false, .none] } : Obj), {}⟩ a = some ({ cls := .ref A, dict := none, data := .fields #[.ref 0, .none, .none, .none, .bool false, .none] } : Obj) := by
    unfold Heap.get?
    simp
  obtain ⟨oc, vs, t, h1, h2, h3⟩ := e2.mp ⟨0, g⟩
  rw [g] at h1
  cases h1
  cases h2
  simp at h3
theorem call_at {env : Env} {o e : Expr} {name : Str} {apos pos : Pos} (hst : starEach [e] env = (false, eval e env) :: starEach [] env) (hl : (apos.endLine == pos.line) = true) : ∃ pl : Value → Sem Bool, eval (.Call (.Attribute o name apos) [e] [] pos) env = (do
      let ov ← attributeBase o name env (eval o env)
      standAt apos.atName
      let (f, first) ← holding [ov] (getMethod ov name (pl ov))
      callWith pos f first (backTo pos (starEach [e] env)) []) := by
  have hform : methodCallForm 1 (backTo pos (starEach [e] env)) (backToKw pos (keywordEach [] env)) = true := by rw [hst]; rfl
  have hpos : methodCallPos true o env apos pos = pure pos := by unfold methodCallPos; simp [hl]
  refine ⟨?_, ?_⟩
  rotate_left
  · rw [arm_eval_Call]
    unfold methodCall
    simp only [List.length_cons, List.length_nil, Nat.zero_add, Nat.add_zero]
    rw [hform, hpos]
    simp only [pure_bind]
    rfl
/-- what the __init__ leaves -/
def IniEnd (C : Ctx) (z : As) (H : Hp) (a A : Addr) (f : Str) (x : PV) (v : V) (H2 : Hp) : Prop := ∃ (z1 : As) (H1 : Hp) (p1 : Sg) (dx : Addr),
  Go C ⟨[], H, nl⟩ z H [.un, .pv x, .un] [some (.ref a), some v, some (.ref A)] z1 H1 p1 [some (.ref a), some v, some (.ref A)] ∧ H1 a = some (exo a A none) ∧ H1 dx = none ∧ dx ≠ a ∧ H2 = upd (upd H1 dx (exd dx [(f, v)])) a (exo a A (some dx))
theorem NoThird.looks {M : Model} {base h : Heap} (n : NoThird base) (k : ∀ b o, base.get? b = some o → h.get? b = some o) (A : Addr) : PySem.W.Looks M h (opaqueClassAbove (.ref A)) none := by
  obtain ⟨o, e1, e2⟩ := n
  refine PySem.W.looks_opaque (K := [(cStatics, o)]) (fun b u e => ?_) e2
  have e3 : (match b == cStatics with | true => some o | false => none) = some u := e
  cases q : (b == cStatics) with
  | true =>
    rw [q] at e3
    cases e3
    rw [beq_iff_eq.mp q]
    exact k _ _ e1
  | false => rw [q] at e3; cases e3
section
variable {C : Ctx} {P : Tb} {k : Nat} {cl : Cl} {d : Fd} {A : Addr} {f : Str} {fI cc cda : Addr} {name qual : Str} {a1 a2 : Arg} {e : Expr} {p0 p1 p2 p3 p4 p5 p6 p7 p8 : Pos} {scope : Scope} {doc pm ct oc : Value} {an od : Option Addr} {osl : Array (Option Value)} {E : CE}
theorem ini_run (G : GOk C P k cl) (gv : ∀ g v, C.gv g = some v → ∃ f, v = .ref f) (T : IniC C.K A) (nt : NoThird C.base) (hno : PySem.W.findIn C.K (.ref A) f = some none) (F : IniAt C P d A f fI cc cda name qual a1 a2 e p0 p1 p2 p3 p4 p5 p6 p7 p8 scope doc pm ct oc an od osl E)
    {Ar : Around} {outer : List Env} {s : Shared} {H : Hp} {z : As} {x : PV} {v : V} {u : Value} {a : Addr} {r : RV} {s' : Sg} (hr : Room (3 * k + 1) Ar) (hg : Ar.guards = some []) (e0 : Env0 C.P C.w C.K C.mg C.base Ar outer s H) (ea : H a = some (exo a A none))
    (sr : SRel C ⟨[], H, nl⟩ z H [.un, .pv x, .un] [some (.ref a), some v, some (.ref A)]) (rv : RelV v u) (hev : evE cl C.tb E [.un, .pv x, .un] = .ok r s') :
    codeAny (model C.P C.w) Ar (.call (.ref fI) ⟨[.ref a, u], []⟩) (CR (L2.CX C.P C.w) outer C.P C.w H s (fun w H2 => w = .non ∧ IniEnd C z H a A f x v H2) fun _ _ _ => False) s := by
  have kb : ∀ b o, C.base.get? b = some o → s.heap.get? b = some o := fun b o e => (e0.bs b o e).1
  have inK : C.K.In s.heap := e0.mod.kin.keeps kb
  have S := F.sc
  have nd := S.nd
  rw [F.N] at nd
  have hn : a1.arg ≠ a2.arg := fun q => by rw [q] at nd; simp at nd
  obtain ⟨vs, file, tf, ccl, cdd, ccs, hcode, hvs, hfile⟩ := F.rec_
  obtain ⟨cl', cld, csl, hcell⟩ := F.cell
  let NFx : NdefX.NF := ⟨name, qual, ⟨[], [a1, a2], none, [], [], none, []⟩, [.Expr (.Call (.Attribute (.Call (.Name "super" p0) [] [] p1) "__init__" p2) [e] [] p3) p4, .Assign [.Attribute (.Name a1.arg p5) f p6] (.Name a2.arg p7) p8], scope, [("__class__", cc)], cda⟩
  let X : Cx := NdefX.ncx (L2.CX C.P C.w) C.P C.w C.K C.mg C.base d.N NFx fI Ar outer s H (fun _ _ _ => False)
  have cells : NdefX.CellsAt NFx.cl ["__class__"] [some (V.ref A)] s.heap H := by
    have one : ∀ y c, List.lookup y [(("__class__" : Str), cc)] = some c → y = "__class__" ∧ c = cc := fun y c q => by
      have q2 : (match y == ("__class__" : Str) with | true => some cc | false => none) = some c := q
      cases q3 : (y == ("__class__" : Str)) with
      | true => rw [q3] at q2; cases q2; exact ⟨beq_iff_eq.mp q3, rfl⟩
      | false => rw [q3] at q2; cases q2
    have hc : s.heap.IsCell cc (some (.ref A)) := ⟨_, inK _ _ hcell, rfl⟩
    refine ⟨rfl, fun y c q => ?_, fun y y2 c q1 q2 => ?_, fun i y q => ?_⟩
    · obtain ⟨_, rfl⟩ := one y c q
      exact ⟨(e0.bs _ _ (e0.mod.kin _ _ hcell)).2, _, hc⟩
    · exact (one y c q1).1.trans (one y2 c q2).1.symm
    · cases i with
      | zero =>
        simp at q
        subst q
        exact ⟨cc, rfl, fun v q => by
          simp at q
          subst q
          exact ⟨_, rfl, hc⟩⟩
      | succ i => simp at q
  have Sg : NdefX.startF d.N [.ref a, v] [some (V.ref A)] = [some (.ref a), some v, some (.ref A)] := by
    unfold NdefX.startF
    rw [F.N]
    rfl
  apply ks_codeAny_call_defAt (fd := PySem.W.fnX name qual ⟨[], [a1, a2], none, [], [], none, []⟩ NFx.body scope [("__class__", cc)] .none .none doc pm an (.ref cda) ct) (body := NFx.body) (binds := [(a1.arg, .ref a), (a2.arg, u)]) hr.depth (inK _ _ F.lk) rfl (e0.mod.nolimit.keeps kb) (PySem.W.codeRec_of inK F.cd) rfl (bind_ini hn) S.nocell ?_ ?_ S.co S.gen S.kind
  · intro y hy
    simp only [List.mem_cons, List.not_mem_nil, or_false] at hy
    rcases hy with rfl | rfl
    · exact S.par _ (by simp)
    · exact S.par _ (by simp)
  intro h₀ hns kp
  have I : Inv X [] [some (.ref a), some v, some (.ref A)] H { s with heap := h₀, toks := s.toks + 2 } := by
    rw [← Sg]
    exact NdefX.inv_startN (F := NFx) S hr.hd e0 rfl (.cons rfl (.cons rv .nil)) cells hns kp
  show PySem.wpAt _ X.A (.func NFx.body X.env) (execs NFx.body X.env) _ X.xe _
  have hkc : X.env.kindOf "__class__" = some .free := S.frk _ (by simp)
  have l1 : scope.names.lookup a1.arg = some .local := S.par _ (by simp)
  have l2 : scope.names.lookup a2.arg = some .local := S.par _ (by simp)
  have N0 : X.N[0]? = some a1.arg := by show d.N[0]? = _; rw [F.N]; rfl
  have N1 : X.N[1]? = some a2.arg := by show d.N[1]? = _; rw [F.N]; rfl
  obtain ⟨bm0, cd, hcl, hm, hh, hob, hrf⟩ := T.cls
  obtain ⟨nB, nId, iB, iId, bm, FB, nm, q', Nn, bs, sn, sub, ab, col, dd, k0, k1, k2, k3, k5, hC⟩ := T.ex
  have hcl2 : PySem.W.clsIn C.K A = some { name := nm, bases := bs, mro := .ref A :: bm, ns := Nn, qualname := q', hasDict := true, slotNames := sn, subclasses := sub, abstract := ab, collection := col, hasDel := false } := by unfold PySem.W.clsIn; rw [hC] <;> rfl
  have W0 : Takes X (fun _ _ _ _ => False) := takes_of (X := X) rfl rfl rfl rfl
  have o : Ok C ⟨[], H, nl⟩ (fun _ _ _ _ => False) k ⟨scope, d.N, [], false, false, []⟩ X :=
    ⟨⟨rfl, rfl, rfl, rfl, rfl, rfl, S.nd, rfl, rfl, hr.deeper _, by
      show (Ar.deeper _).guards = some []
      first | exact hg | (simp [Around.deeper]; exact hg), W0, passes_of (X := X) rfl, gv⟩, S.kind, (fun h => by cases h), (fun i _ hm => by cases hm), (fun h => by cases h), (fun h => by cases h), (fun x h => by simp at h)⟩
  have he := okE G E ⟨[], H, nl⟩ _ _ X o e F.chk
  have hst : starEach [e] X.env = (false, eval e X.env) :: starEach [] X.env := star_cons F.star _ _
  obtain ⟨pl, hcall⟩ := call_at (o := .Call (.Name "super" p0) [] [] p1) (name := "__init__") hst F.line
  refine ks_wpAt_execs_cons (ks_wpAt_Expr_any ?_ I.quiet)
  rw [hcall]
  refine PySem.wpAt_bind (PySem.wpAt_mono (Q := fun ov s₁ => wpAny (model X.prog X.w) X.A (getMethod ov "__init__" (pl ov)) (fun fx s₂ => wpAny (model X.prog X.w) X.A (callWith p3 fx.1 fx.2 (backTo p3 (starEach [e] X.env)) []) _ X.xe s₂) X.xe s₁) ?_ (fun ov s₁ h₁ => PySem.wpAt_of_wpAny (wpAny_bind (wpAny_standAt (wpAny_bind (wpAny_holding (wpAny_mono h₁ (fun fx s₂ h₂ => h₂) fun _ _ x => x)))))) fun _ _ x => x)
  refine ks_wpAt_super_base (env := X.env) (f := fI) (cc := cda) F.sup hkc (by decide) rfl (I.kIn _ _ F.lk) rfl rfl rfl (I.kIn _ _ hcode) rfl hvs hfile F.top ?_
  refine PySem.W.ks_loadName_global S.kind F.sup ?_
  obtain ⟨mb, b1, b2⟩ := I.mod.blt
  refine Calls.loadGlobal_builtin (mg := C.mg) (I.mod.glob.keeps I.bk) F.mg (b1.keeps I.bk) ((b2 "super" (by decide)).trans (show bootBuiltins "super" = some (.type "super") by kernel_rfl)) ⟨rfl, ?_⟩
  refine wpAny_loadName_free S.kind hkc rfl ⟨_, I.kIn _ _ hcell, rfl⟩ ?_
  obtain ⟨m, hm1, hm2⟩ := I.loc
  obtain ⟨u0, r0, l0⟩ := hm2 0 a1.arg (.ref a) N0 rfl (.inl l1)
  obtain rfl : u0 = Value.ref a := r0
  have l0' : m a1.arg = some (.ref a) := by
    rcases l0 with ⟨_, h⟩ | ⟨h, _⟩
    · exact h
    · exfalso
      have l1' : X.env.kindOf a1.arg = some .local := l1
      rcases h with h | h <;> rw [l1'] at h <;> cases h
  refine wpAny_loadName_local S.kind l1 hm1 l0' ?_
  refine ks_wpAny_isType_cls (I.kIn _ _ hC) rfl ⟨rfl, ?_⟩
  obtain ⟨t1, hoa⟩ := exo_at I.hok ea
  have hsub : PySem.W.mroIn C.K A (.ref A) = some true := by
    unfold PySem.W.mroIn
    rw [hcl2]
    simp
  refine ks_wpAny_call_super (I.kIn _ _ hC) rfl hoa rfl (fun c e => by cases e) (PySem.W.looks_mroIn I.kIn hsub) (fun h' hso kp2 => ?_)
  have I2 : Inv X [] [some (.ref a), some v, some (.ref A)] H ⟨h', s.gens, s.drawn, s.toks + 2, s.os⟩ := I.kept (t' := s.toks + 2) kp2
  have hoa2 := kp2 _ _ hoa
  have hI : PySem.W.InstAt h' a { cls := .ref A, dict := none, data := .fields #[.ref t1, .none, .none, .none, .bool false, .none] } A none := ⟨hoa2, rfl, rfl, trivial⟩
  have hiB : PySem.W.mroIn C.K A (.type iB) = some true := by
    unfold PySem.W.mroIn
    rw [hcl2]
    simp only [Option.bind_some, List.isEmpty_cons, Bool.false_eq_true, if_false]
    rw [List.contains_cons, FB.cI, Bool.or_true]
  refine PySem.W.kxs_getMethod FB.su hso (nt.looks I2.bk A) (l₀ := .ref A :: bm) ((PySem.W.looks_clsIn I2.kIn hcl2).andThen .now) (by simp [List.dropWhile_cons]) I2.kIn (FB.al C.K) (hI.type.andThen (PySem.W.looks_mroIn I2.kIn hiB)) (PySem.W.ks_ne I2.kIn hI hcl2) (by decide) ?_
  have kp3 : ∀ b o, h'.get? b = some o → (h'.push (PySem.W.kxs_mw iId a)).get? b = some o := fun b o e => Heap.get?_push_of_some _ e
  have I3 := I2.kept (t' := s.toks + 2 + 1) kp3
  have hq0 : (h'.push (PySem.W.kxs_mw iId a)).get? h'.objs.size = some (PySem.W.kxs_mw iId a) := Heap.get?_push_at rfl rfl
  have hns2 : h'.objs.size ≤ h'.objs.size := Nat.le_refl _
  have I4 : Inv X [(h'.objs.size, PySem.W.kxs_mw iId a)] _ H _ := I3.pins_of fun p hp => by
    simp only [List.mem_cons, List.not_mem_nil, or_false] at hp
    subst hp
    refine ⟨hq0, I2.hok.fresh hns2, fun z => ?_, I2.nofs hns2, fun v z => by cases z⟩
    have h1 := I2.lt
    rw [← z] at h1
    exact absurd h1 (Nat.lt_irrefl _)
  have pa : PA X [e] (tCons (tOf C ⟨[], H, nl⟩ (fun _ _ _ _ => False) (evE cl C.tb E)) tNil) := pa_cons he pa_nil hst
  show wpAny _ _ (callWith p3 (.ref h'.objs.size) [] (backTo p3 (starEach [e] X.env)) []) _ _ _
  refine PySem.W.kxs_callWith (i := iId) (x := a) (by rw [hst]; rfl) ?_
  have arg := pa.run p3 _ _ _ H (fun vs H1 => vs.length = 1 ∧ ∃ z1 p1, Go C ⟨[], H, nl⟩ z H [.un, .pv x, .un] [some (.ref a), some v, some (.ref A)] z1 H1 p1 [some (.ref a), some v, some (.ref A)]) I4 ⟨z, [.un, .pv x, .un], sr, by
    rw [hev]
    exact fun v' H1 z1 g _ => ⟨rfl, z1, _, g⟩⟩
  rw [hst] at arg ⊢
  refine Calls.evalArgs_plain (thn arg fun us s1 hh => ?_)
  obtain ⟨vs4, H1, I5, r5, hl5, z1, pp1, g5⟩ := hh
  have hus : us.length ≤ sizeLine := by
    rw [← Paired.length r5, hl5, sizeLine_eq]
    omega
  have noOwn : ∀ b : Addr, ¬ Own ([.un, .pv x, .un] : Mp.Sg) [some (.ref a), some v, some (.ref A)] b := by
    rintro b ⟨i, t, y, q1, q2⟩
    match i, q1 with
    | 0, q1 => cases q1
    | 1, q1 => cases q1
    | 2, q1 => cases q1
    | _ + 3, q1 => simp at q1
  have ea1 : H1 a = some (exo a A none) := g5.stp.keep a _ ea (noOwn a) True.intro
  have hpin := I5.pin (h'.objs.size, PySem.W.kxs_mw iId a) (by simp)
  refine ⟨hpin.1, ?_⟩
  have I6 : Inv X [] _ H1 s1 := I5.pins_of fun p hp => by cases hp
  refine mw_call (X := X) FB ⟨nm, q', Nn, bs, sn, sub, ab, col, dd, k0, k1, k2, k3, k5, hC⟩ I6 ea1 hpin.1 hus fun s5 I7 => ?_
  show PySem.wpAt _ _ _ (execs [.Assign [.Attribute (.Name a1.arg p5) f p6] (.Name a2.arg p7) p8] X.env) _ _ _
  refine ks_wpAt_execs_cons (PySem.wpAt_of_wpAny (plainObj_wpAny_Assign_Attribute (thn ((pe_var (X := X) (i := 1) N1 (.inl l2) (okName_of F.o2).1 (okName_of F.o2).2).run _ _ _ _ (fun y Hy => y = v ∧ Hy = H1) I7 ⟨v, rfl, rfl, rfl⟩) fun y s6 hh => ?_)))
  obtain ⟨vy, Hy, I8, r8, rfl, rfl⟩ := hh
  refine thn ((pe_var (X := X) (i := 0) N0 (.inl l1) (okName_of F.o1).1 (okName_of F.o1).2).run _ _ _ _ (fun y Hy2 => y = .ref a ∧ Hy2 = Hy) I8 ⟨.ref a, rfl, rfl, rfl⟩) fun y2 s7 hh => ?_
  obtain ⟨va, Ha, I9, r9, rfl, rfl⟩ := hh
  obtain rfl : y2 = Value.ref a := r9
  refine fld_new (X := X) T I9 ea1 hno r8 fun dx s8 hd8 hne J => ?_
  show PySem.wpAt _ _ _ (execs [] X.env) _ _ _
  refine PySem.wpAt_of_wpAny ?_
  show wpAny _ _ (pure Flow.next) _ _ _
  refine wpAny_pure ?_
  exact ⟨.non, _, J.os, J.bare, J.base, J.hok, rfl, rfl, z1, Ha, pp1, dx, g5, ea1, hd8, hne, rfl⟩
end
end Mp

/-! MpIn4: errors raised. -/
namespace Mp
open PySem PySem.Spec PyProof.Rows L2 RZ
/-- the core g of an own __init__, run as the interpreter runs it -/
structure IniOk (C : Ctx) (k : Nat) (cl : Cl) (g : Nat) (A : Addr) (f : Str) : Prop where
  ic : IniC C.K A
  no : PySem.W.findIn C.K (.ref A) f = some none
  ex : ∃ fI : Addr, PySem.W.findIn C.K (.ref A) "__init__" = some (some (.ref fI)) ∧ PySem.W.typeIn C.K (.ref fI) = some (.type "function") ∧
    ∀ (A0 : Around) (us : List Value) (outer : List Env) (s : Shared) (H : Hp) (z : As) (x : PV) (v : V) (u : Value) (a : Addr) (r : RV) (s' : Sg), Room (3 * k) A0 → (A0.under (.builtin "type.__call__" ⟨.ref A :: us, []⟩)).guards = some [] →
      Env0 C.P C.w C.K C.mg C.base (A0.under (.builtin "type.__call__" ⟨.ref A :: us, []⟩)) outer s H → H a = some (exo a A none) → SRel C ⟨[], H, nl⟩ z H [.un, .pv x, .un] [some (.ref a), some v, some (.ref A)] → RelV v u → cl g [.un, .pv x] = .ok r s' →
      codeAny (model C.P C.w) (A0.under (.builtin "type.__call__" ⟨.ref A :: us, []⟩)) (.call (.ref fI) ⟨[.ref a, u], []⟩) (CR (L2.CX C.P C.w) outer C.P C.w H s (fun w H2 => w = .non ∧ IniEnd C z H a A f x v H2) fun _ _ _ => False) s
/-- how it stands behind the top -/
def IniIs (C : Ctx) (P : Tb) (d : Fd) (A : Addr) (f : Str) : Prop := IniC C.K A ∧ PySem.W.findIn C.K (.ref A) f = some none ∧ NoThird C.base ∧
  ∃ fI cc cda name qual a1 a2 e p0 p1 p2 p3 p4 p5 p6 p7 p8 scope doc pm ct oc an od osl E, IniAt C P d A f fI cc cda name qual a1 a2 e p0 p1 p2 p3 p4 p5 p6 p7 p8 scope doc pm ct oc an od osl E
section
variable {C : Ctx} {P : Tb} {k : Nat} {g : Nat} {A : Addr} {f : Str} {d : Fd}
theorem ini_zero (h : IniIs C P d A f) : IniOk C 0 (runF C.tb 0) g A f := by
  obtain ⟨h1, h2, h3, fI, cc, cda, name, qual, a1, a2, e, p0, p1, p2, p3, p4, p5, p6, p7, p8, scope, doc, pm, ct, oc, an, od, osl, E, F⟩ := h
  exact ⟨h1, h2, fI, F.fi, F.ti, fun A0 us outer s H z x v u a r s' hr hg e0 ea sr rv hcl => by cases hcl⟩
theorem ini_succ (G : GOk C P k (runF C.tb k)) (gv : ∀ g v, C.gv g = some v → ∃ f, v = .ref f) (hd : C.tb g = some d) (h : IniIs C P d A f) : IniOk C (k + 1) (runF C.tb (k + 1)) g A f := by
  obtain ⟨h1, h2, h3, fI, cc, cda, name, qual, a1, a2, e, p0, p1, p2, p3, p4, p5, p6, p7, p8, scope, doc, pm, ct, oc, an, od, osl, E, F⟩ := h
  refine ⟨h1, h2, fI, F.fi, F.ti, fun A0 us outer s H z x v u a r s' hr hg e0 ea sr rv hcl => ?_⟩
  unfold runF at hcl
  rw [hd] at hcl
  dsimp only at hcl
  rw [if_pos (by rw [F.np]; rfl), F.body, F.N, F.np] at hcl
  have e3 : ([.un, .pv x] : Sg) ++ List.replicate ([a1.arg, a2.arg, ("__class__" : Str)].length - 2) .un = [.un, .pv x, .un] := rfl
  rw [e3] at hcl
  cases hE : evE (runF C.tb k) C.tb E [.un, .pv x, .un] with
  | no => unfold exSs exS at hcl; rw [hE] at hcl; cases hcl
  | er x1 s1 => unfold exSs exS at hcl; rw [hE] at hcl; cases hcl
  | ok r1 s1 => exact ini_run G gv h1 h3 h2 F ((Room.make (k := 3 * k + 2) hr A us []).mono (by omega)) hg e0 ea sr rv hE
end
/-! ### the raise -/
section
variable {C : Ctx} {L : Act} {z z' : As} {H H1 H' : Hp} {p p' : Sg} {σ : L2.St} {a A dx : Addr} {x : PV} {v : V} {f : Str}
theorem tabs_new {T : List (Addr × Str)} {o : HO} (t : LamX.Tabs T H) (n : H a = none) : LamX.Tabs T (upd H a o) := by
  intro p hp
  obtain ⟨ps, h1, h2, h3⟩ := t p hp
  refine ⟨ps, by rw [upd_ne (ne_of_none h1 n)]; exact h1, h2, fun pos cv hc => ?_⟩
  obtain ⟨c, e1, e2⟩ := h3 pos cv hc
  exact ⟨c, e1, by rw [upd_ne (ne_of_none e2 n)]; exact e2⟩
theorem ini_in (s : SRel C L z H p σ) (n : H a = none) (r : Rep C z H x v) : SRel C ⟨[], upd H a (exo a A none), nl⟩ z (upd H a (exo a A none)) [.un, .pv x, .un] [some (.ref a), some v, some (.ref A)] := by
  have k : ∀ b o, H b = some o → upd H a (exo a A none) b = some o := fun b o e => by rw [upd_ne (ne_of_none e n)]; exact e
  have r' : Rep C z (upd H a (exo a A none)) x v := Rep.keep (M := fun _ => False) (fun b o e _ _ => k b o e) ⟨fun _ q => q.elim, fun _ q => q.elim⟩ (fun b e => .inl e) _ _ r
  refine ⟨rfl, fun b hb => ?_, fun _ e => e, fun i y e => ?_, fun i t y e => ?_, fun i j t u y w b e => ?_, fun q hq => (by cases hq), tabs_new s.tb n, fun i hs e => (by match i, e with | 0, e => cases e | 1, e => cases e | 2, e => cases e | _ + 3, e => simp at e)⟩
  · cases q : H b with
    | none => exact absurd q (s.zt b hb)
    | some o => rw [k b o q]; simp
  · match i, e with
    | 0, e => cases e
    | 1, e => cases e; exact ⟨v, rfl, r'⟩
    | 2, e => cases e
    | _ + 3, e => simp at e
  · match i, e with
    | 0, e => cases e
    | 1, e => cases e
    | 2, e => cases e
    | _ + 3, e => simp at e
  · match i, e with
    | 0, e => cases e
    | 1, e => cases e
    | 2, e => cases e
    | _ + 3, e => simp at e
theorem ini_out {d : Addr} (s : SRel C L z H p σ) (n : H a = none) (r : Rep C z H x v) {H2 : Hp} (h : IniEnd C z (upd H a (exo a A none)) a A f x v H2) :
    ∃ d, H2 a = some (exo a A (some d)) ∧ H2 d = some (exd d [(f, v)]) ∧ H d = none ∧ Go C L z H p σ z (upd (del H2 a) d (.xd [(f, v)])) p σ ∧ Rep C z (upd (del H2 a) d (.xd [(f, v)])) x v ∧ (upd (del H2 a) d (.xd [(f, v)])) d = some (.xd [(f, v)]) := by
  obtain ⟨z1, H1, p1, dx, g, ea, hd, hne, rfl⟩ := h
  have noOwn : ∀ b : Addr, ¬ Own ([.un, .pv x, .un] : Mp.Sg) [some (.ref a), some v, some (.ref A)] b := by
    rintro b ⟨i, t, y, q1, q2⟩
    match i, q1 with
    | 0, q1 => cases q1
    | 1, q1 => cases q1
    | 2, q1 => cases q1
    | _ + 3, q1 => simp at q1
  have hdn : H dx = none := by
    have q := g.stp.there dx hd
    rwa [upd_ne hne] at q
  have val : ∀ b, upd (del (upd (upd H1 dx (exd dx [(f, v)])) a (exo a A (some dx))) a) dx (.xd [(f, v)]) b = if b = dx then some (.xd [(f, v)]) else if b = a then none else H1 b := fun b => by
    by_cases h1 : b = dx
    · rw [if_pos h1, h1, upd_same]
    · rw [if_neg h1, upd_ne h1]
      by_cases h2 : b = a
      · rw [if_pos h2, h2, del_same]
      · rw [if_neg h2, del_ne h2, upd_ne h2, upd_ne h1]
  have k : ∀ b o, H b = some o → NT o → upd (del (upd (upd H1 dx (exd dx [(f, v)])) a (exo a A (some dx))) a) dx (.xd [(f, v)]) b = some o := fun b o e nt => by
    rw [val, if_neg (ne_of_none e hdn), if_neg (ne_of_none e n)]
    exact g.stp.keep b o (by rw [upd_ne (ne_of_none e n)]; exact e) (noOwn b) nt
  have th : ∀ b, upd (del (upd (upd H1 dx (exd dx [(f, v)])) a (exo a A (some dx))) a) dx (.xd [(f, v)]) b = none → H b = none := fun b e => by
    rw [val] at e
    split at e
    · cases e
    · split at e
      · rename_i h; rw [h]; exact n
      · rename_i h
        have q := g.stp.there b e
        rwa [upd_ne h] at q
  have tb : LamX.Tabs C.ts (upd (del (upd (upd H1 dx (exd dx [(f, v)])) a (exo a A (some dx))) a) dx (.xd [(f, v)])) := by
    intro p hp
    obtain ⟨ps, h1, h2, h3⟩ := g.rel.tb p hp
    have na : p.1 ≠ a := fun q => by rw [q, ea] at h1; exact exo_tbl (Option.some.inj h1)
    refine ⟨ps, by rw [val, if_neg (ne_of_none h1 hd), if_neg na]; exact h1, h2, fun pos cv hc => ?_⟩
    obtain ⟨c, e1, e2⟩ := h3 pos cv hc
    have nc : c ≠ a := fun q => by rw [q, ea] at e2; exact exo_codeO (Option.some.inj e2)
    exact ⟨c, e1, by rw [val, if_neg (ne_of_none e2 hd), if_neg nc]; exact e2⟩
  refine ⟨dx, upd_same, by rw [upd_ne hne, upd_same], hdn, Go.unro s k th tb, Rep.keep (M := fun _ => False) (fun b o e _ nt => k b o e nt) ⟨fun _ q => q.elim, fun _ q => q.elim⟩ (fun b e => .inl e) _ _ r, upd_same⟩
end
section
variable {C : Ctx} {L : Act} {W : WX} {k : Nat} {P : Tb} {cl : Cl} {A : Pl} {X : Cx}
/-- what the raise of an own __init__ wants -/
def tIni (C : Ctx) (L : Act) (W : WX) (cl : Cl) (g : Nat) (c : Nat) (f : Str) (fe : Sg → Rs RV) : L2.St → Hp → XK → Prop := fun σ H Q => ∃ z p, SRel C L z H p σ ∧ match fe p with
  | .ok r p1 => ∃ x, valOf r = some x ∧ (∃ r2 s2, cl g [.un, .pv x] = .ok r2 s2) ∧ ∀ cls d H' z', Go C L z H p σ z' H' p1 σ → XRep C z' H' ⟨c, [(f, x)]⟩ cls d → Q cls d H'
  | .er x p1 => ∀ cls d H' z', Go C L z H p σ z' H' p1 σ → XRep C z' H' x cls d → W cls d σ H'
  | .no => False
theorem under_make {A : Around} {C : Addr} {us : List Value} : (A.under (.builtin "type.__call__" ⟨.ref C :: us, []⟩)).guards = A.guards := by
  first
    | rfl
    | simp [Around.under, Code.weight, Code.isCreation, Code.isGuard, Code.isCaller, Code.frames, Code.isFrame, guardIds]
theorem pmk_ini {x : Str} {e : Expr} {p pos : Pos} {g c : Nat} {f : Str} {Ad : Addr} {fe : Sg → Rs RV} (o : Ok C L W k A X) (he : PE X e (tOf C L W fe)) (IO : IniOk C k cl g Ad f) (hg : Gl X x) (hm : C.mg x = some (.ref Ad)) (hx : C.xc c = some (.ref Ad)) (hdb : (x == ("__debug__" : Str)) = false) (hst : noStar e = true) :
    PMk X (.Call (.Name x p) [e] [] pos) (tIni C L W cl g c f fe) := by
  intro pins s σ H Q I h
  obtain ⟨z, p0, sr, h⟩ := h
  obtain ⟨fI, hfi, hti, run⟩ := IO.ex
  obtain ⟨nB, nId, iB, iId, bm, FB, nm, q', Nn, bs, sn, sub, ab, col, dd, k0, k1, k2, k3, k5, hC⟩ := IO.ic.ex
  obtain ⟨jn, ln, FN⟩ := FB.nw
  have oK := o.x.K
  have has : ∀ {u : Value}, bm.contains u = true → (Value.ref Ad :: bm).contains u = true := fun {u} h => by rw [List.contains_cons, h, Bool.or_true]
  have hasN : ∀ {n : String}, bm.contains (.type n) = false → (Value.ref Ad :: bm).contains (.type n) = false := fun {n} h => by rw [List.contains_cons, h, Bool.or_false]; rfl
  refine wpAny_Call_Name_kw (ld_glob I hg (by rw [o.x.mg]; exact hm) ?_ hdb)
  have s1 : starEach [e] X.env = (false, eval e X.env) :: starEach [] X.env := star_cons hst _ _
  have pa : PA X [e] (tCons (tOf C L W fe) tNil) := pa_cons he pa_nil s1
  refine PySem.W.callWith_K (h₀ := X.base) I.ok.mod.kin (by rw [oK]; exact IO.ic.kp) (thn (pa.run pos pins s σ H (fun vs H1 => ∃ v z1 p1 x, vs = [v] ∧ Go C L z H p0 σ z1 H1 p1 σ ∧ Rep C z1 H1 x v ∧ (∃ r2 s2, cl g [.un, .pv x] = .ok r2 s2) ∧ ∀ cls d H' z', Go C L z H p0 σ z' H' p1 σ → XRep C z' H' ⟨c, [(f, x)]⟩ cls d → Q cls d H') I ⟨z, p0, sr, ?_⟩) fun us s1 hh => ?_) s1 (by rfl)
  · cases hf : fe p0 with
    | no => rw [hf] at h; exact h
    | er x1 p1 => rw [hf] at h; exact h
    | ok r p1 =>
      rw [hf] at h
      obtain ⟨x1, h1, h2, h3⟩ := h
      intro v H1 z1 g1 rr
      obtain ⟨F, hF, rv⟩ := val_less rr h1
      exact ⟨v, _, p1, x1, rfl, g1.less sr F hF, rv, h2, h3⟩
  obtain ⟨vs, H1, I1, r1, v, z1, p1, x1, rfl, g1, rp, ⟨r2, s2, hcl⟩, q1⟩ := hh
  refine ⟨I1.kIn, ?_⟩
  show wpAny _ _ (call (.ref Ad) us) _ _ _
  cases r1 with
  | @cons _ u _ us' rv rn =>
  cases rn
  obtain ⟨hp, gg, dr, tk, os⟩ := s1
  have hsz : hp.objs.size ≤ hp.objs.size + 1 := Nat.le_succ _
  have hn : H1 (hp.objs.size + 1) = none := I1.hok.fresh hsz
  have kk : ∀ b o, hp.get? b = some o → ((hp.push (PySem.W.kdv_tup [u])).push (PySem.HandSPX.excO Ad hp.objs.size)).get? b = some o := fun b o e => Heap.get?_push_of_some _ (Heap.get?_push_of_some _ e)
  have hget : ((hp.push (PySem.W.kdv_tup [u])).push (PySem.HandSPX.excO Ad hp.objs.size)).get? (hp.objs.size + 1) = some (PySem.HandSPX.excO Ad hp.objs.size) := by heap_get
  have I2 : Inv X pins σ (upd H1 (hp.objs.size + 1) (exo (hp.objs.size + 1) Ad none)) ⟨(hp.push (PySem.W.kdv_tup [u])).push (PySem.HandSPX.excO Ad hp.objs.size), gg, dr, tk, os⟩ :=
    I1.laid (t' := tk) (a := hp.objs.size + 1) (o := exo (hp.objs.size + 1) Ad none) (h' := (hp.push (PySem.W.kdv_tup [u])).push (PySem.HandSPX.excO Ad hp.objs.size)) kk hsz (exo_ok hget)
  have e0 := I2.env0.make Ad [u] []
  rw [o.x.prog, o.x.w, o.x.K, o.x.mg, o.x.base] at e0
  have kIn : C.K.In hp := by rw [← oK]; exact I1.kIn
  have hr : [u].length ≤ sizeLine := by rw [sizeLine_eq]; simp
  refine wpAny_call (run_make FN (has FB.cB) (hasN FB.cA) (hasN FB.cN) (kIn _ _ hC) (by rw [o.x.prog, o.x.w]; exact PySem.W.looks_findIn kIn hfi) (fun self => by rw [o.x.prog, o.x.w]; exact PySem.W.bind_fn kIn self hti) hr ?_)
  rw [o.x.prog, o.x.w]
  refine codeAny_mono (run X.A [u] X.stack _ _ z1 x1 v u (hp.objs.size + 1) r2 s2 o.x.room (by rw [under_make]; exact o.x.gd) e0 upd_same (ini_in g1.rel hn rp) rv hcl) fun r s' hq' => ?_
  cases r with
  | error er =>
    obtain ⟨_, _, _, _, _, _, _, _, _, _, _, _, w⟩ := hq'
    exact w.elim
  | ok fl =>
    cases fl with
    | ret u1 =>
      obtain ⟨v2, H2, os2, bare2, un2, hok2, rv2, ev2, fin⟩ := hq'
      subst ev2
      obtain ⟨dx, ea, ed, hd1, g2, rp2, xd⟩ := ini_out (d := 0) g1.rel hn rp fin
      obtain ⟨h2, gg2, d2, t2, os'⟩ := s'
      refine ⟨rv2, mk_end (raises_own (by rw [oK]; exact IO.ic.sb) (by rw [oK]; exact IO.ic.ty)) I1 hsz kk un2 (by rw [o.x.prog, o.x.w]; exact hok2) os2 bare2 ea ed hd1 (q1 _ _ _ _ (g1.trans sr g2) ⟨hx, fun _ => ⟨dx, _, rfl, xd, rfl, .cons rp2 .nil⟩⟩)⟩
    | next => exact False.elim hq'
    | brk => exact False.elim hq'
    | cont => exact False.elim hq'
theorem rse_ini {x : Str} {ce : CE} {e : Expr} {p pos pos2 : Pos} {g c : Nat} {f : Str} {Ad : Addr} (o : Ok C L W k A X) (he : PE X e (tOf C L W (evE cl C.tb ce))) (IO : IniOk C k cl g Ad f) (hg : Gl X x) (hm : C.mg x = some (.ref Ad)) (hx : C.xc c = some (.ref Ad)) (hdb : (x == ("__debug__" : Str)) = false) (hst : noStar e = true) :
    PS X (.Raise (some (.Call (.Name x p) [e] [] pos)) none pos2) (tOfS C L W (exS cl C.tb (.rse c (.ini g f ce)))) := by
  refine PS.imp (ps_raise o.x.calm o.x.tk (pmk_ini (c := c) o he IO hg hm hx hdb hst)) fun D σ H q => ?_
  obtain ⟨z, p0, sr, q⟩ := q
  refine ⟨z, p0, sr, ?_⟩
  unfold exS at q
  dsimp only at q
  cases hf : evE cl C.tb ce p0 with
  | no => rw [hf] at q; exact q
  | er x1 p1 => rw [hf] at q; exact fun cls d H' z' g xr => q cls d σ H' z' g xr
  | ok r p1 =>
    rw [hf] at q
    dsimp only [toSs] at q
    cases e1 : valOf r with
    | none => rw [e1] at q; exact q.elim
    | some x1 =>
      rw [e1] at q
      dsimp only at q
      cases e2 : cl g [.un, .pv x1] with
      | no => rw [e2] at q; exact q.elim
      | er _ _ => rw [e2] at q; exact q.elim
      | ok r2 s2 =>
        rw [e2] at q
        exact ⟨x1, e1, ⟨r2, s2, e2⟩, fun cls d H' z' g xr => q cls d σ H' z' g xr⟩
theorem rse_txt {x m : Str} {j : Nat} {p p2 pos pos2 : Pos} {c : Nat} {Ad : Addr} (o : Ok C L W k A X) (T : TxtC C.K Ad) (hg : Gl X x) (hm : C.mg x = some (.ref Ad)) (hx : C.xc c = some (.ref Ad)) (hdb : (x == ("__debug__" : Str)) = false) :
    PS X (.Raise (some (.Call (.Name x p) [.Constant (.str m) j p2] [] pos)) none pos2) (tOfS C L W (exS cl C.tb (.rse c .txt))) := by
  obtain ⟨B, newId, initId, bmB, F, q⟩ := T.ex
  have oK := o.x.K
  refine PS.imp (ps_raise o.x.calm o.x.tk (pmk_own F (by rw [oK]; exact q) (by rw [o.x.mg]; exact hm) (by rw [oK]; exact T.kp) (raises_own (by rw [oK]; exact T.sb) (by rw [oK]; exact T.ty)) hg hdb)) fun D σ H q => ?_
  obtain ⟨z, p0, sr, q⟩ := q
  unfold exS at q
  exact q _ _ σ H z (.refl sr) ⟨hx, fun h => absurd rfl h⟩
end
/-- the own __init__s of the table -/
def GInit (C : Ctx) (P : Tb) (k : Nat) (cl : Cl) : Prop := ∀ (c : Nat) (nm : Str) (g : Nat) (f : Str), P.xs[c]? = some (nm, some (g, f)) → ∃ A : Addr, C.mg nm = some (.ref A) ∧ C.xc c = some (.ref A) ∧ IniOk C k cl g A f
/-- the check of a raise -/
def chkR (P : Tb) (A : Pl) (c : Nat) (kd : Rk) : Stmt → Bool
  | .Raise (some (.Call (.Name x _) [e] [] _)) none _ => glB A.sc x && okName x && (match P.xs[c]? with
    | some (y, none) => decide (y = x) && (match kd, e with
      | .txt, .Constant (.str _) _ _ => true
      | _, _ => false)
    | some (y, some (g2, f2)) => decide (y = x) && (match kd with
      | .ini g f ce => decide (g2 = g) && decide (f2 = f) && noStar e && chkE P A ce e
      | _ => false)
    | none => false)
  | _ => false
section
variable {C : Ctx} {L : Act} {W : WX} {k : Nat} {P : Tb} {cl : Cl} {A : Pl} {X : Cx}
theorem rse_ok (G : GOk C P k cl) (GI : GInit C P k cl) (o : Ok C L W k A X) {c : Nat} {kd : Rk} {s : Stmt} (h : chkR P A c kd s = true) : PS X s (tOfS C L W (exS cl C.tb (.rse c kd))) := by
  unfold chkR at h
  split at h
  · rename_i x p e pos pos2
    simp only [Bool.and_eq_true] at h
    obtain ⟨⟨h1, h2⟩, h3⟩ := h
    split at h3
    · rename_i y hy
      simp only [Bool.and_eq_true, decide_eq_true_eq] at h3
      obtain ⟨rfl, h3⟩ := h3
      obtain ⟨Ad, m1, m2, m3, _⟩ := G.xc c _ hy
      split at h3
      · exact rse_txt o (m3 rfl) (o.gl h1) m1 m2 (okName_of h2).1
      · cases h3
    · rename_i y g2 f2 hy
      simp only [Bool.and_eq_true, decide_eq_true_eq] at h3
      obtain ⟨rfl, h3⟩ := h3
      obtain ⟨Ad, m1, m2, io⟩ := GI c _ _ _ hy
      split at h3
      · rename_i g f ce
        simp only [Bool.and_eq_true, decide_eq_true_eq] at h3
        obtain ⟨⟨⟨rfl, rfl⟩, h4⟩, h5⟩ := h3
        exact rse_ini o (okE G ce L W A X o e h5) io (o.gl h1) m1 m2 (okName_of h2).1 h4
      · cases h3
    · cases h3
  · cases h
end
end Mp

/-! MpY: the check of statements. -/
namespace Mp
open PySem PySem.Spec PyProof.Rows L2 RZ

/-- a comprehension stored in a name on its line -/
def lcStore (A : Pl) (x : Str) (px : Pos) : Expr → Bool
  | .ListComp _ _ sc2 p2 => (px.line == p2.line) && locB A.sc x && !(sc2.names.any fun (n, k) => n == x && (k == .local || k == .cell))
  | _ => false
def isLc : CE → Bool
  | .lc _ _ _ _ _ _ => true
  | _ => false
def chkIter (P : Tb) (A : Pl) (k : IK) (src : List CE) (tg iter : Expr) : Bool := match k with
  | .val => chkEs P A src [iter]
  | k => match iterArgs A k tg iter with
    | some args => chkEs P A src args
    | none => false
def nmLoc (A : Pl) : List Nat → List Expr → Bool
  | [], [] => true
  | i :: is, e :: es => (match e with
    | .Name x _ => decide (A.N[i]? = some x) && !A.mp.contains i && locB A.sc x
    | _ => false) && nmLoc A is es
  | _, _ => false
def namesOf : List Expr → List Str
  | [] => []
  | .Name x _ :: es => x :: namesOf es
  | _ :: es => namesOf es
mutual
def chkS (P : Tb) (A : Pl) : CS → Stmt → Bool
  | .asg (.nm i) e, s => match s with
    | .Assign [.Name x px] v _ => storeB A i x && chkE P A e v && (noComp v || (isLc e && lcStore A x px v))
    | _ => false
  | .asg (.tp ts) e, s => match s with
    | .Assign [.Tuple es k p] v _ => chkTgs A ts es && chkE P A e v && noComp v && (noTup v || (match v with
      | .Tuple vs _ _ => (!(es.length == 2 || es.length == 3) || vs.length != es.length) || ((parNames A.sc es).isNone || vs.all (foldedForSure 8))
      | _ => false))
    | _ => false
  | .par is es, s => match s with
    | .Assign [.Tuple ts _ _] (.Tuple vs _ _) _ => nmLoc A is ts && decide is.Nodup && decide (parNames A.sc ts = some (namesOf ts)) && !(!(ts.length == 2 || ts.length == 3) || vs.length != ts.length) && !vs.all (foldedForSure 8) && !vs.all (constantsAlone 8) && chkEs P A es vs
    | _ => false
  | .aug i op e, s => match s with
    | .AugAssign (.Name x _) op' v _ => storeB A i x && decide (op' = op) && (match op with
      | .Add => true
      | .Sub => true
      | _ => false) && chkE P A e v
    | _ => false
  | .set i ix e, s => match s with
    | .Assign [.Subscript (.Name x _) y _] v _ => varB A i x && noSlice y && noComp v && chkE P A ix y && chkE P A e v
    | _ => false
  | .app i e, s => match s with
    | .Expr (.Call (.Attribute (.Name x _) m ap) [v] [] cp) _ => varB A i x && decide (m = ("append" : Str)) && noStar v && (ap.endLine == cp.line) && chkE P A e v
    | _ => false
  | .exp e, s => match s with
    | .Expr v _ => noComp v && chkE P A e v
    | _ => false
  | .ret e, s => match s with
    | .Return (some v) _ => chkE P A e v
    | _ => false
  | .retN, s => match s with
    | .Return none _ => true
    | _ => false
  | .ite t a b, s => match s with
    | .If c x y _ => chkT P A t c && chkSs P A a x && chkSs P A b y
    | _ => false
  | .whl t b, s => match s with
    | .While c x [] _ => chkT P A t c && chkSs P A b x
    | _ => false
  | .fro tg k src b, s => match s with
    | .For etg iter body [] _ => noSet iter && chkIter P A k src etg iter && chkTg A tg etg && chkSs P A b body
    | _ => false
  | .brk, s => match s with
    | .Break _ => true
    | _ => false
  | .cnt, s => match s with
    | .Continue _ => true
    | _ => false
  | .pas, s => match s with
    | .Pass _ => true
    | .Expr (.Constant (.str _) _ _) _ => true
    | _ => false
  | .ded, _ => true
  | .rse c kd, s => chkR P A c kd s
  | .stf i c j e, s => match s with
    | .Assign [.Attribute (.Name x _) f _] v _ => varB A i x && (match P.ic[c]? with
      | some q => decide (q.2.1[j]? = some f)
      | none => false) && chkE P A e v
    | _ => false
  | .stp i c js e, s => match s with
    | .Assign [.Tuple ts _ _] v _ => (P.ic[c]?).isSome && attrsB P A i c js ts && noComp v && (noTup v || (match v with
      | .Tuple vs _ _ => (parNames A.sc ts).isNone || vs.all (foldedForSure 8)
      | _ => false)) && chkE P A e v
    | _ => false
  | .asl i hs, s => match s with
    | .Assign [.Name x _] (.List es _) _ => A.lm && storeB A i x && decide (hs.length ≤ 1000) && lamsB P A hs es
    | _ => false
def chkSs (P : Tb) (A : Pl) : List CS → List Stmt → Bool
  | [], ss => match ss with
    | [] => true
    | _ => false
  | c :: cs, ss => match ss with
    | s :: ss => chkS P A c s && chkSs P A cs ss
    | [] => false
end
section
variable {C : Ctx} {L : Act} {k : Nat} {P : Tb} {cl : Cl} {W : WX} {A : Pl} {X : Cx}
theorem chkIter_ok (G : GOk C P k cl) (o : Ok C L W k A X) {kd : IK} {src : List CE} {tg iter : Expr} (h : chkIter P A kd src tg iter = true) : PI X tg iter (iOf C L W kd (evEs cl C.tb src)) := by
  unfold chkIter at h
  cases kd with
  | val =>
    obtain ⟨f, q1, q2⟩ := okOne G src L W A X o iter h
    rw [q2]
    exact i_val o.x.K q1
  | _ =>
    dsimp only at h
    split at h
    · rename_i args ha
      exact iter_ok G o ha (okEs G src L W A X o args h).1 (okEs_star _ _ h) fun e he => by subst he; exact okOne G src L W A X o e h
    · cases h
theorem sole_none {e t : Expr} (h : noComp e = true) (l : Nat) (env : Env) : swapsWithSole [t] e l env = pure false := swaps_none h _ _ _
theorem asg_ix {o y : Expr} {p : Pos} {env : Env} (h : noSlice y = true) (v : Value) : assign (.Subscript o y p) env v = (do
      let ov ← holding [v] (eval o env)
      let iv ← holding [v, ov] (eval y env)
      standAt p
      holding [v, ov, iv] (setItem ov iv v)
      release [v, ov, iv] []) := by
  cases y <;> first | rfl | (simp [noSlice] at h; done)
theorem lc_set (G : GOk C P k cl) (o : Ok C L W k A X) {e : CE} {v : Expr} {i : Nat} {x : Str} {px pos : Pos} (h : chkE P A e v = true) (hL : isLc e = true) (hl : lcStore A x px v = true) (h1 : storeB A i x = true) :
    PS X (.Assign [.Name x px] v pos) (tAsg (tOf C L W (evE cl C.tb e)) (gName i)) := by
  unfold lcStore at hl
  split at hl
  · rename_i elt0 gens0 scope0 p0
    simp only [Bool.and_eq_true, Bool.not_eq_true'] at hl
    obtain ⟨⟨l1, l2⟩, l3⟩ := hl
    obtain ⟨q1, q2, q3, q4, q5⟩ := store_ok' o h1
    have hloc : X.env.scope.names.lookup x = some .local := by
      rw [o.x.sc]
      unfold locB at l2
      split at l2
      · assumption
      · cases l2
    cases e <;> first
      | (cases hL; done)
      | skip
    rename_i own tg kd src ifs e
    unfold chkE at h
    split at h
    · rename_i elt etg iter eifs scope pos2 heq
      cases heq
      simp only [Bool.and_eq_true, decide_eq_true_eq] at h
      obtain ⟨⟨⟨⟨⟨⟨⟨⟨h1', h2⟩, h3⟩, h4⟩, h5⟩, h6⟩, h7⟩, h8⟩, h9⟩ := h
      have ok := blkOk_by h2
      have hk := ok.kind
      have ob := fun s H D cl fp => o.blk s H scope0 hk D cl fp
      have hi : PI X etg iter (iOf C L W kd (evEs cl C.tb src)) := by
        cases kd with
        | val =>
          obtain ⟨f, q1, q2⟩ := okOne G src L W A X o iter h3
          rw [q2]
          exact i_val o.x.K q1
        | _ =>
          dsimp only at h3
          split at h3
          · rename_i args ha
            exact iter_ok G o ha (okEs G src L W A X o args h3).1 (okEs_star _ _ h3) fun e he => by subst he; exact okOne G src L W A X o e h3
          · cases h3
      have key := ps_setLc (spos := pos) (py := px) o.x.calm q1 q2 hloc (sw_true (by rw [o.x.sc]; exact o.kind) hloc l1 l3) hi (by rw [o.x.names, o.x.sc]; exact ok) (fun s H D cl fp => okTg (ob s H D cl fp) tg etg h4)
        (tt := tOfB C L W0 (evT cl C.tb ifs)) (fun s H D cl2 fp => okTs G ifs L W0 _ _ (ob s H D cl2 fp) eifs h7 h8) (fun s H D cl2 fp => okE G e L W0 _ _ (ob s H D cl2 fp) elt0 h9) (fun x => fold_none h1' _ x)
      rw [own_ix] at key
      exact PS.imp key fun D σ H q => lc_read (fun i hi => List.contains_iff_mem.mp (List.all_eq_true.mp h5 i hi)) (fun i hi => o.mp i (by simpa using List.all_eq_true.mp h6 i hi)) σ H _ q
    · cases h
  · cases hl
theorem nmLoc_ok' (o : Ok C L W k A X) : ∀ (is : List Nat) (ts : List Expr), nmLoc A is ts = true → ts.length = is.length ∧ ∀ i ∈ is, i ∉ L.mp.map (·.1)
  | [], [], _ => ⟨rfl, fun _ h => by cases h⟩
  | [], _ :: _, h => by simp [nmLoc] at h
  | _ :: _, [], h => by simp [nmLoc] at h
  | i :: is, e :: es, h => by
    simp only [nmLoc, Bool.and_eq_true] at h
    obtain ⟨q1, q2⟩ := nmLoc_ok' o is es h.2
    refine ⟨by simp [q1], fun j hj => ?_⟩
    rcases List.mem_cons.mp hj with rfl | hj
    · have h1 := h.1
      split at h1
      · simp only [Bool.and_eq_true, Bool.not_eq_true'] at h1
        exact o.mp j h1.1.2
      · cases h1
    · exact q2 j hj
theorem nm_inv {i : Nat} {is : List Nat} {ts : List Expr} (o : Ok C L W k A X) (h : nmLoc A (i :: is) ts = true) : ∃ x p es, ts = .Name x p :: es ∧ X.N[i]? = some x ∧ X.env.scope.names.lookup x = some .local ∧ i ∉ L.mp.map (·.1) ∧ nmLoc A is es = true := by
  cases ts with
  | nil => simp [nmLoc] at h
  | cons e es =>
    simp only [nmLoc, Bool.and_eq_true] at h
    obtain ⟨h1, h2⟩ := h
    split at h1
    · rename_i x p
      simp only [Bool.and_eq_true, Bool.not_eq_true', decide_eq_true_eq] at h1
      refine ⟨x, p, es, rfl, by rw [o.x.names]; exact h1.1.1, ?_, o.mp i h1.1.2, h2⟩
      rw [o.x.sc]
      have := h1.2
      unfold locB at this
      split at this
      · assumption
      · cases this
    · cases h1
theorem nm_nil {ts : List Expr} (h : nmLoc A [] ts = true) : ts = [] := by
  cases ts with
  | nil => rfl
  | cons _ _ => simp [nmLoc] at h
theorem par_ok (G : GOk C P k cl) (o : Ok C L W k A X) {is : List Nat} {es : List CE} {ts vs : List Expr} {k1 k2 : Nat} {p1 p2 pos : Pos} (h1 : nmLoc A is ts = true) (h2 : is.Nodup) (h3 : parNames A.sc ts = some (namesOf ts))
    (h4 : (!(ts.length == 2 || ts.length == 3) || vs.length != ts.length) = false) (h5 : vs.all (foldedForSure 8) = false) (h6 : vs.all (constantsAlone 8) = false) (h7 : chkEs P A es vs = true) :
    PS X (.Assign [.Tuple ts k1 p1] (.Tuple vs k2 p2) pos) (tOfS C L W (exS cl C.tb (.par is es))) := by
  have hw := stores_par (env := X.env) (k := k1) (k2 := k2) (pos := p1) (p2 := p2) h4 (by rw [o.x.sc]; exact o.kind) (okEs_star _ _ h7) (by rw [o.x.sc]; exact h3) h5 h6
  have ha := (okEs G es L W A X o vs h7).1
  have hN : X.N.Nodup := by rw [o.x.names]; exact o.x.nd
  simp only [Bool.or_eq_false_iff, Bool.not_eq_false', Bool.or_eq_true, beq_iff_eq, bne_eq_false_iff_eq] at h4
  obtain ⟨hl, hv⟩ := h4
  obtain ⟨hl1, hm⟩ := nmLoc_ok' o is ts h1
  match is, h1, h2, hl1 with
  | [], h1, _, hl1 => obtain rfl := nm_nil h1; simp at hl
  | [i], h1, _, hl1 => simp only [List.length_cons, List.length_nil] at hl1; omega
  | [i, j], h1, h2, hl1 =>
    obtain ⟨x, px, ts, rfl, a1, a2, a3, h1⟩ := nm_inv o h1
    obtain ⟨y, py, ts, rfl, b1, b2, b3, h1⟩ := nm_inv o h1
    obtain rfl := nm_nil h1
    match vs, hv with
    | [a, b], _ =>
      have hij : i ≠ j := fun e => by subst e; simp at h2
      exact PS.imp (ps_par o.x.calm hN a1 b1 hij a2 b2 ha hw) (rd_par hm)
  | [i, j, l], h1, h2, hl1 =>
    obtain ⟨x, px, ts, rfl, a1, a2, a3, h1⟩ := nm_inv o h1
    obtain ⟨y, py, ts, rfl, b1, b2, b3, h1⟩ := nm_inv o h1
    obtain ⟨w, pw, ts, rfl, c1, c2, c3, h1⟩ := nm_inv o h1
    obtain rfl := nm_nil h1
    match vs, hv with
    | [a, b, c], _ =>
      simp only [List.nodup_cons, List.mem_cons, List.not_mem_nil, or_false, not_or, not_false_eq_true, List.nodup_nil, and_true] at h2
      exact PS.imp (ps_par3 o.x.calm hN a1 b1 c1 h2.1.1 h2.1.2 h2.2 a2 b2 c2 ha hw) (rd_par3 hm)
  | _ :: _ :: _ :: _ :: _, _, _, hl1 => simp only [List.length_cons] at hl1; omega
theorem ps_nx {st : Stmt} (h : PS X st tNext) : PS X st (tOfS C L W fun s => .nx s) := PS.imp h fun D σ H ⟨z, p, s, q⟩ => q σ H z (.refl s)
theorem loc_of {x : Str} (o : Ok C L W k A X) (h : locB A.sc x = true) : X.env.scope.names.lookup x = some .local := by
  rw [o.x.sc]
  unfold locB at h
  split at h
  · assumption
  · cases h
mutual
theorem okS (G : GOk C P k cl) (GI : GInit C P k cl) : ∀ (c : CS) (W : WX) (A : Pl) (X : Cx) (o : Ok C L W k A X) (s : Stmt), chkS P A c s = true → PS X s (tOfS C L W (exS cl C.tb c))
  | .asg (.nm i) e, W, A, X, o, s, h => by
    unfold chkS at h
    split at h
    · rename_i x px v pos
      simp only [Bool.and_eq_true, Bool.or_eq_true] at h
      obtain ⟨⟨h1, h2⟩, h3⟩ := h
      obtain ⟨q1, q2, q3, q4, q5⟩ := store_ok' o h1
      have he := okE G e L W A X o v h2
      refine s_nm ?_ q5
      rcases h3 with h3 | h3
      · exact ps_set q1 q2 q3 he (swaps_none h3 _ _ _) q4
      · exact lc_set G o h2 h3.1 h3.2 h1
    · cases h
  | .asg (.tp ts) e, W, A, X, o, s, h => by
    unfold chkS at h
    split at h
    · rename_i es kk p v pos
      simp only [Bool.and_eq_true, Bool.or_eq_true] at h
      obtain ⟨⟨⟨h1, h2⟩, h3⟩, h4⟩ := h
      obtain ⟨q1, q2, q3⟩ := okTgs o ts es h1
      refine s_tp (okE G e L W A X o v h2) (g_tp o.x.K o.x.calm q1 (by rw [asE_len, q2]) (asE_none _ _ q3)) (sole_none h3 _ _) ?_ rfl
      rcases h4 with h4 | h4
      · exact stores_plain h4
      · split at h4
        · rcases Bool.or_eq_true_iff.mp h4 with h4 | h4
          · exact stores_long h4
          · exact stores_other (by rw [o.x.sc]; exact Bool.or_eq_true_iff.mp h4)
        · cases h4
    · cases h
  | .par is es, W, A, X, o, s, h => by
    unfold chkS at h
    split at h
    · simp only [Bool.and_eq_true, decide_eq_true_eq, Bool.not_eq_true'] at h
      obtain ⟨⟨⟨⟨⟨⟨h1, h2⟩, h3⟩, h4⟩, h5⟩, h6⟩, h7⟩ := h
      exact par_ok G o h1 h2 h3 h4 h5 h6 h7
    · cases h
  | .aug i op e, W, A, X, o, s, h => by
    unfold chkS at h
    split at h
    · rename_i x px op' v pos
      simp only [Bool.and_eq_true, decide_eq_true_eq] at h
      obtain ⟨⟨⟨h1, rfl⟩, h2⟩, h3⟩ := h
      obtain ⟨q1, q2, q3, q4, q5⟩ := store_ok' o h1
      have he := okE G e L W A X o v h3
      split at h2
      · exact PS.imp (ps_aug q1 q2 q3 he ip_add q4) (rd_aug q5 (.inl ⟨rfl, rfl⟩))
      · exact PS.imp (ps_aug q1 q2 q3 he ip_sub q4) (rd_aug q5 (.inr ⟨rfl, rfl⟩))
      · cases h2
    · cases h
  | .set i ix e, W, A, X, o, s, h => by
    unfold chkS at h
    split at h
    · rename_i x px y p2 v pos
      simp only [Bool.and_eq_true] at h
      obtain ⟨⟨⟨⟨h1, h2⟩, h3⟩, h4⟩, h5⟩ := h
      refine PS.imp (ps_asg (okE G e L W A X o v h5) (pg_sub (var_ok o h1) (okE G ix L W A X o y h4) set_list (asg_ix h2)) (sole_none h3 _ _) stores_sub rfl) rd_set
    · cases h
  | .app i e, W, A, X, o, s, h => by
    unfold chkS at h
    split at h
    · rename_i x px m ap v cp pos
      simp only [Bool.and_eq_true, decide_eq_true_eq] at h
      obtain ⟨⟨⟨⟨h1, rfl⟩, h2⟩, h3⟩, h4⟩ := h
      refine PS.imp (ps_expr (pe_bm PySem.F.plainAttrs_list PySem.F.slot_list_append PySem.F.type_list_append mt_append (var_ok o h1) (pa_cons (okE G e L W A X o v h4) pa_nil (star_cons h2 _ _)) rfl ?_ h3 (star_cons h2 _ _) rfl)) (by rw [o.x.K]; exact rd_app)
      rw [star_cons h2]; rfl
    · cases h
  | .exp e, W, A, X, o, s, h => by
    unfold chkS at h
    split at h
    · simp only [Bool.and_eq_true] at h
      exact PS.imp (ps_expr (okE G e L W A X o _ h.2) (swaps_none h.1 _ _ _)) rd_exp
    · cases h
  | .ret e, W, A, X, o, s, h => by
    unfold chkS at h
    split at h
    · exact PS.imp (ps_ret (okE G e L W A X o _ h)) rd_ret
    · cases h
  | .retN, W, A, X, o, s, h => by
    unfold chkS at h
    split at h
    · exact PS.imp ps_retN fun D σ H ⟨z, p, sr, q⟩ => q .non σ H z (.refl sr) (.val .non)
    · cases h
  | .ite t a b, W, A, X, o, s, h => by
    unfold chkS at h
    split at h
    · simp only [Bool.and_eq_true] at h
      obtain ⟨⟨h1, h2⟩, h3⟩ := h
      exact PS.imp (ps_if (okT G t L W A X o _ h1) (okSs G GI a W A X o _ h2) (okSs G GI b W A X o _ h3)) rd_ite
    · cases h
  | .whl t b, W, A, X, o, s, h => by
    unfold chkS at h
    split at h
    · simp only [Bool.and_eq_true] at h
      exact PS.imp (ps_while o.x.po (okT G t L W A X o _ h.1) (okSs G GI b W A X o _ h.2)) rd_whl
    · cases h
  | .fro tg kd src b, W, A, X, o, s, h => by
    unfold chkS at h
    split at h
    · simp only [Bool.and_eq_true] at h
      obtain ⟨⟨⟨h1, h2⟩, h3⟩, h4⟩ := h
      exact PS.imp (ps_for o.x.po o.x.calm (chkIter_ok G o h2) (okTg o tg _ h3) (okSs G GI b W A X o _ h4) (fun x => fold_none h1 _ x)) rd_fro
    · cases h
  | .brk, W, A, X, o, s, h => by
    unfold chkS at h
    split at h
    · exact PS.imp ps_break fun D σ H ⟨z, p, sr, q⟩ => q σ H z (.refl sr)
    · cases h
  | .cnt, W, A, X, o, s, h => by
    unfold chkS at h
    split at h
    · exact PS.imp ps_continue fun D σ H ⟨z, p, sr, q⟩ => q σ H z (.refl sr)
    · cases h
  | .pas, W, A, X, o, s, h => by
    unfold chkS at h
    split at h
    · exact ps_nx ps_pass
    · exact ps_nx ps_doc
    · cases h
  | .ded, W, A, X, o, s, h => ⟨fun pins s σ H Q I ⟨_, _, _, q⟩ => by unfold exS at q; exact q.elim⟩
  | .rse c kd, W, A, X, o, s, h => by
    unfold chkS at h
    exact rse_ok G GI o h
  | .stf i c j e, W, A, X, o, s, h => by
    unfold chkS at h
    split at h
    · rename_i x p1 f p2 v pos
      simp only [Bool.and_eq_true] at h
      obtain ⟨⟨h1, h2⟩, h3⟩ := h
      split at h2
      · rename_i q hq
        exact s_stf G o hq (of_decide_eq_true h2) h1 (okE G e L W A X o v h3)
      · cases h2
    · cases h
  | .stp i c js e, W, A, X, o, s, h => by
    unfold chkS at h
    split at h
    · rename_i ts kk p v pos
      simp only [Bool.and_eq_true, Bool.or_eq_true] at h
      obtain ⟨⟨⟨⟨h1, h2⟩, h3⟩, h4⟩, h5⟩ := h
      obtain ⟨q, hq⟩ := Option.isSome_iff_exists.mp h1
      refine s_stp G o hq h2 h3 ?_ (okE G e L W A X o v h5)
      rcases h4 with h4 | h4
      · exact stores_plain h4
      · split at h4
        · exact stores_other (by rw [o.x.sc]; exact Bool.or_eq_true_iff.mp h4)
        · cases h4
    · cases h
  | .asl i hs, W, A, X, o, s, h => by
    unfold chkS at h
    split at h
    · rename_i x px es p pos
      simp only [Bool.and_eq_true, decide_eq_true_eq] at h
      obtain ⟨⟨⟨h1, h2⟩, h3⟩, h4⟩ := h
      exact s_asl G o h1 h2 h3 h4
    · cases h
theorem okSs (G : GOk C P k cl) (GI : GInit C P k cl) : ∀ (c : List CS) (W : WX) (A : Pl) (X : Cx) (o : Ok C L W k A X) (s : List Stmt), chkSs P A c s = true → PSs X s (tOfS C L W (exSs cl C.tb c))
  | [], W, A, X, o, s, h => by
    unfold chkSs at h
    cases s with
    | nil => exact ss_nil
    | cons _ _ => cases h
  | c :: cs, W, A, X, o, s, h => by
    unfold chkSs at h
    cases s with
    | nil => cases h
    | cons s ss =>
      simp only [Bool.and_eq_true] at h
      exact ss_cons (okS G GI c W A X o s h.1) (okSs G GI cs W A X o ss h.2)
end
end
end Mp

/-! MpZ: a def by its checked body. -/
namespace Mp
open PySem PySem.Spec PyProof.Rows L2 RZ

section
variable {C : Ctx} {z z' : As} {H H' : Hp} {as s : Sg} {vs : List V} {σ' : L2.St}
theorem outs_len {mp : List Nat} {s : Sg} : ∀ {k : Nat} {as : Sg}, (outs mp s k as).length = as.length
  | _, [] => rfl
  | k, .pv x :: as => by unfold outs; rw [List.length_cons, List.length_cons, outs_len]
  | k, .own _ _ :: as => by unfold outs; rw [List.length_cons, List.length_cons, outs_len]
  | k, .un :: as => by unfold outs; rw [List.length_cons, List.length_cons, outs_len]
  | k, .lam _ :: as => by unfold outs; rw [List.length_cons, List.length_cons, outs_len]
theorem outs_at {mp : List Nat} {s : Sg} : ∀ {k : Nat} {as : Sg} {i : Nat} {sl : Slot}, (outs mp s k as)[i]? = some sl →
    (∃ x, as[i]? = some (.pv x) ∧ sl = .pv x) ∨ sl = .un ∨ (∃ t x, as[i]? = some (.own t x) ∧ mp.contains (k + i) = true ∧ s[k + i]? = some sl ∧ ∀ l, sl ≠ .lam l)
  | _, [], _, _, e => by simp [outs] at e
  | k, a :: as, 0, sl, e => by
    cases a with
    | pv x => simp [outs] at e; exact .inl ⟨x, rfl, e.symm⟩
    | un => simp [outs] at e; exact .inr (.inl e.symm)
    | lam _ => simp [outs] at e; exact .inr (.inl e.symm)
    | own t x =>
      simp [outs] at e
      split at e
      · rename_i hm
        cases q : s[k]? with
        | none => rw [q] at e; exact .inr (.inl e.symm)
        | some b =>
          rw [q] at e
          cases b with
          | lam l => exact .inr (.inl e.symm)
          | un => exact .inr (.inl e.symm)
          | pv y => obtain rfl : sl = .pv y := e.symm; exact .inr (.inr ⟨t, x, rfl, by simpa using hm, by simpa using q, fun l => by simp⟩)
          | own u y => obtain rfl : sl = .own u y := e.symm; exact .inr (.inr ⟨t, x, rfl, by simpa using hm, by simpa using q, fun l => by simp⟩)
      · exact .inr (.inl e.symm)
  | k, a :: as, i + 1, sl, e => by
    have e2 : (outs mp s (k + 1) as)[i]? = some sl := by cases a <;> simpa [outs] using e
    have h := outs_at e2
    have hk : k + 1 + i = k + (i + 1) := by omega
    rw [hk] at h
    simpa using h
/-- the lent places -/
def lent (mp : List Nat) (vs : List V) : List (Nat × Addr) := mp.filterMap fun i => match vs[i]? with
  | some (V.ref a) => some (i, a)
  | _ => none
theorem lent_mem {mp : List Nat} {i : Nat} {a : Addr} (h1 : mp.contains i = true) (h2 : vs[i]? = some (.ref a)) : (i, a) ∈ lent mp vs := by
  unfold lent
  rw [List.mem_filterMap]
  exact ⟨i, List.contains_iff_mem.mp h1, by rw [h2]⟩
theorem lent_of {mp : List Nat} {q : Nat × Addr} (h : q ∈ lent mp vs) : mp.contains q.1 = true ∧ vs[q.1]? = some (.ref q.2) := by
  unfold lent at h
  rw [List.mem_filterMap] at h
  obtain ⟨i, h1, h2⟩ := h
  split at h2
  · rename_i a ha
    cases h2
    exact ⟨List.contains_iff_mem.mpr h1, ha⟩
  · cases h2
theorem start_at {N : List Str} {i : Nat} {v : V} : (L2.start N vs)[i]? = some (some v) ↔ vs[i]? = some v := by
  unfold L2.start
  by_cases hi : i < vs.length
  · rw [List.getElem?_append_left (by simpa using hi), List.getElem?_map]
    cases vs[i]? <;> simp
  · rw [List.getElem?_append_right (by simpa using hi), List.getElem?_replicate, List.getElem?_eq_none (by omega)]
    split <;> simp
theorem un_at {n i : Nat} {sl : Slot} (e : (as ++ List.replicate n Slot.un)[i]? = some sl) (h : sl ≠ .un) : as[i]? = some sl := by
  by_cases hi : i < as.length
  · rwa [List.getElem?_append_left hi] at e
  · rw [List.getElem?_append_right (by omega), List.getElem?_replicate] at e
    split at e
    · cases e; exact absurd rfl h
    · cases e
/-- the body's state at its entry -/
theorem SRel.entry {N : List Str} {mp : List Nat} {lp : Option LPl} (s : SRel C ⟨[], H, nl⟩ z H as (vs.map some)) (hn : as.length ≤ N.length) : SRel C ⟨lent mp vs, H, lp⟩ z H (as ++ List.replicate (N.length - as.length) .un) (L2.start N vs) := by
  have l1 : as.length = vs.length := by simpa using s.len
  have up : ∀ {i : Nat} {v : V}, (vs.map some)[i]? = some (some v) → (L2.start N vs)[i]? = some (some v) := fun {i v} e => start_at.mpr (map_some_at.mp e)
  have dn : ∀ {i : Nat} {v : V}, (L2.start N vs)[i]? = some (some v) → (vs.map some)[i]? = some (some v) := fun {i v} e => map_some_at.mpr (start_at.mp e)
  refine ⟨by unfold L2.start; simp; omega, s.zt, s.h0, fun i x e => ?_, fun i t x e => ?_, fun i j t u x y a e1 e2 e3 e4 => ?_, fun q hq => ?_, s.tb, fun i hs e => by
    have h := s.lm i hs (un_at e (by simp))
    obtain ⟨a, ws, e1, _⟩ := id h
    exact h.any rfl ((up e1).trans e1.symm)⟩
  · obtain ⟨v, h1, h2⟩ := s.pv i x (un_at e (by simp))
    exact ⟨v, up h1, h2⟩
  · obtain ⟨a, o, h1, h2⟩ := s.ow i t x (un_at e (by simp))
    exact ⟨a, o, up h1, h2⟩
  · exact s.dj i j t u x y a (un_at e1 (by simp)) (un_at e2 (by simp)) (dn e3) (dn e4)
  · exact start_at.mpr (lent_of hq).2
theorem own_entry {N : List Str} {n : Nat} {a : Addr} : Own (as ++ List.replicate n .un) (L2.start N vs) a → Own as (vs.map some) a := fun ⟨i, t, x, e1, e2⟩ => ⟨i, t, x, un_at e1 (by simp), map_some_at.mpr (start_at.mp e2)⟩
/-- .. and back -/
theorem Go.leave {N : List Str} {mp : List Nat} {n : Nat} {lp : Option LPl} (s0 : SRel C ⟨[], H, nl⟩ z H as (vs.map some)) (g : Go C ⟨lent mp vs, H, lp⟩ z H (as ++ List.replicate n .un) (L2.start N vs) z' H' s σ') :
    Go C ⟨[], H, nl⟩ z H as (vs.map some) z' H' (outs mp s 0 as) (vs.map some) ∧ ∀ a, Own (outs mp s 0 as) (vs.map some) a → Own s σ' a := by
  have hz : ∀ a, Own (as ++ List.replicate n .un) (L2.start N vs) a → Own as (vs.map some) a := fun a => own_entry
  have st : Stp (Own as (vs.map some)) z H z' H' := ⟨fun a o e m => g.stp.keep a o e fun q => m (hz a q), g.stp.there, fun a e m => g.stp.priv a e fun q => m (hz a q), g.stp.new⟩
  have lk : ∀ {i : Nat} {a : Addr} {t : Bool} {x : PV}, as[i]? = some (.own t x) → mp.contains i = true → (vs.map some)[i]? = some (some (.ref a)) → σ'[i]? = some (some (.ref a)) := fun {i a t x} e1 e2 e3 =>
    g.rel.mp (i, a) (lent_mem e2 (map_some_at.mp e3))
  have ownUp : ∀ a, Own (outs mp s 0 as) (vs.map some) a → Own s σ' a := fun a ⟨i, t, x, e1, e2⟩ => by
    rcases outs_at e1 with ⟨y, _, h⟩ | h | ⟨u, y, h1, h2, h3, h4⟩
    · cases h
    · cases h
    · rw [Nat.zero_add] at h2 h3
      exact ⟨i, t, x, h3, lk h1 h2 e2⟩
  refine ⟨⟨⟨by rw [outs_len]; exact s0.len, g.rel.zt, g.rel.h0, fun i x e => ?_, fun i t x e => ?_, fun i j t u x y a e1 e2 e3 e4 => ?_, (fun q hq => by cases hq), g.rel.tb, fun i hs e => by
    rcases outs_at e with ⟨y, _, h⟩ | h | ⟨u, y, h1, h2, h3, h4⟩
    · cases h
    · cases h
    · exact absurd rfl (h4 hs)⟩, st, fun a h => ?_⟩, ownUp⟩
  · rcases outs_at e with ⟨y, h1, h2⟩ | h | ⟨u, y, h1, h2, h3, h4⟩
    · cases h2
      obtain ⟨v, q1, q2⟩ := s0.pv i x h1
      exact ⟨v, q1, q2.step st s0.mok⟩
    · cases h
    · rw [Nat.zero_add] at h2 h3
      obtain ⟨a, o, q1, _⟩ := s0.ow i u y h1
      obtain ⟨v, r1, r2⟩ := g.rel.pv i x h3
      rw [lk h1 h2 q1] at r1; cases r1
      exact ⟨_, q1, r2⟩
  · rcases outs_at e with ⟨y, h1, h2⟩ | h | ⟨u, y, h1, h2, h3, h4⟩
    · cases h2
    · cases h
    · rw [Nat.zero_add] at h2 h3
      obtain ⟨a, o, q1, _⟩ := s0.ow i u y h1
      obtain ⟨b, o2, r1, r2⟩ := g.rel.ow i t x h3
      rw [lk h1 h2 q1] at r1; cases r1
      exact ⟨_, o2, q1, r2⟩
  · rcases outs_at e1 with ⟨_, _, h⟩ | h | ⟨_, _, h1, h2, h3, _⟩
    · cases h
    · cases h
    · rcases outs_at e2 with ⟨_, _, h⟩ | h | ⟨_, _, k1, k2, k3, _⟩
      · cases h
      · cases h
      · rw [Nat.zero_add] at h2 h3 k2 k3
        exact g.rel.dj i j t u x y a h3 k3 (lk h1 h2 e3) (lk k1 k2 e4)
  · rcases g.own a (ownUp a h) with q | q
    · exact .inl (hz a q)
    · exact .inr q
end
end Mp
namespace Mp
open PySem PySem.Spec PyProof.Rows L2 RZ
section
variable {C : Ctx} {k : Nat} {P : Tb}
/-- the check of one def of the table: its text's parameters, body, scope -/
def chkD (P : Tb) (d : Fd) (body : List Stmt) (scope : Scope) : Bool := chkSs P ⟨scope, d.N, d.mp, true, d.lm, []⟩ d.body body && decide (d.np ≤ d.N.length)
theorem body_ok {cl : Cl} {d : Fd} {f : Addr} {qual : Str} {body : List Stmt} {scope : Scope} {cdv : Value} (G : GOk C P k cl) (GI : GInit C P k cl) (hlm : d.lm = true → LmAt C cdv (qual ++ ".<locals>." ++ "<lambda>")) (gv : ∀ g v, C.gv g = some v → ∃ f, v = .ref f) (S : FnScope d.N (d.N.take d.np) scope) (hc : chkD P d body scope = true)
    {A : Around} {outer : List Env} {s : Shared} {H : Hp} {vs : List V} {Q : VK} {E : XK} (hr : Room (3 * k + 2) (A.deeper (envOfC qual scope s.heap.objs.size f cdv))) (hg : A.guards = some [])
    {z : As} {as : Sg} (l1 : as.length = d.np) (l2 : vs.length = d.np) (sr : SRel C ⟨[], H, nl⟩ z H as (vs.map some))
    (q : match (match exSs cl C.tb d.body (as ++ List.replicate (d.N.length - d.np) .un) with
        | .nx s => Rs.ok (RV.val .non) (outs d.mp s 0 as)
        | .rt r s => if isBor r then .no else .ok r (outs d.mp s 0 as)
        | .er x s => .er x (outs d.mp s 0 as)
        | _ => .no) with
      | .ok r as' => ∀ v H' z', Go C ⟨[], H, nl⟩ z H as (vs.map some) z' H' as' (vs.map some) → RRep C z' H H' as' (vs.map some) r v → Q v H'
      | .er x as' => ∀ cls dd H' z', Go C ⟨[], H, nl⟩ z H as (vs.map some) z' H' as' (vs.map some) → XRep C z' H' x cls dd → E cls dd H'
      | .no => False) :
    ∃ t, PSs (cxOf (CX C.P C.w) C.P C.w C.K C.mg C.base d.N qual scope f cdv A outer s H E) body t ∧ t { nx := fun _ H' => Q .non H', rt := Q } (L2.start d.N vs) H := by
  unfold chkD at hc
  simp only [Bool.and_eq_true, decide_eq_true_eq] at hc
  obtain ⟨hb, hn⟩ := hc
  have tk : Takes (cxOf (CX C.P C.w) C.P C.w C.K C.mg C.base d.N qual scope f cdv A outer s H E) (fun cls dd _ H' => E cls dd H') := takes_of rfl rfl rfl rfl
  have po : PassesOwn (model C.P C.w) (A.deeper (envOfC qual scope s.heap.objs.size f cdv)) (envOfC qual scope s.heap.objs.size f cdv) (cxOf (CX C.P C.w) C.P C.w C.K C.mg C.base d.N qual scope f cdv A outer s H E).xe := passes_of (X := cxOf (CX C.P C.w) C.P C.w C.K C.mg C.base d.N qual scope f cdv A outer s H E) rfl
  have o : Ok C ⟨lent d.mp vs, H, some ⟨scope, d.N, (cxOf (CX C.P C.w) C.P C.w C.K C.mg C.base d.N qual scope f cdv A outer s H E).env.cells, (cxOf (CX C.P C.w) C.P C.w C.K C.mg C.base d.N qual scope f cdv A outer s H E).env.qual ++ "<lambda>"⟩⟩ (fun cls dd _ H' => E cls dd H') k ⟨scope, d.N, d.mp, true, d.lm, []⟩ (cxOf (CX C.P C.w) C.P C.w C.K C.mg C.base d.N qual scope f cdv A outer s H E) :=
    ⟨⟨rfl, rfl, rfl, rfl, rfl, rfl, S.nd, rfl, rfl, hr.mono (by omega), by
      show (A.deeper (envOfC qual scope s.heap.objs.size f cdv)).guards = some []
      first | exact hg | (simp [Around.deeper]; exact hg), tk, po, gv⟩, S.kind, fun _ _ => rfl, (fun i hi hm => by
      obtain ⟨p, hp, rfl⟩ := List.mem_map.mp hm
      rw [(lent_of hp).1] at hi; cases hi), fun h => ⟨hr, hlm h, rfl⟩, fun _ => hr, fun x h => by simp at h⟩
  refine ⟨_, okSs G GI d.body _ _ _ o body hb, z, as ++ List.replicate (d.N.length - d.np) .un, ?_, ?_⟩
  · rw [← l1]
    exact sr.entry (by omega)
  · cases e : exSs cl C.tb d.body (as ++ List.replicate (d.N.length - d.np) .un) with
    | nx s' =>
      rw [e] at q
      intro σ' H' z' g
      exact q .non H' z' (g.leave sr).1 (.val .non)
    | rt r s' =>
      rw [e] at q
      intro v σ' H' z' g rr
      dsimp only at q
      cases hbr : isBor r with
      | true => rw [hbr] at q; exact q.elim
      | false =>
        rw [hbr] at q
        obtain ⟨g2, ow⟩ := g.leave sr
        refine q v H' z' g2 ?_
        cases rr with
        | val h => exact .val h
        | frs q1 q2 q3 q4 q5 q6 => exact .frs q1 q2 (fun h => q3 (ow _ h)) q4 q5 q6
        | bor h => cases hbr
    | bk s' => rw [e] at q; exact q.elim
    | ct s' => rw [e] at q; exact q.elim
    | er x s' =>
      rw [e] at q
      intro cls dd σ' H' z' g xr
      exact q cls dd H' z' (g.leave sr).1 xr
    | no => rw [e] at q; exact q.elim
end
end Mp
namespace Mp
open PySem PySem.Spec PyProof.Rows L2 RZ
section
variable {C : Ctx} {k : Nat} {P : Tb}
/-- THE STEP: a def whose body checks, one level up -/
theorem fnG {g : Nat} {d : Fd} {f : Addr} {fd : FuncData} {x qual : Str} {params : Arguments} {body : List Stmt} {scope : Scope} {dvs : List V} (G : GOk C P k (runF C.tb k)) (GI : GInit C P k (runF C.tb k)) (gv : ∀ g v, C.gv g = some v → ∃ f, v = .ref f) (hd : C.tb g = some d)
    (F : FunD C.K x qual params body scope dvs [] f fd) (S : FnScope d.N (d.N.take d.np) scope) (hc : chkD P d body scope = true) (hlm : d.lm = true → LmAt C fd.code (qual ++ ".<locals>." ++ "<lambda>")) : FnG C (k + 1) f fd (d.N.take d.np) (spOf C (runF C.tb (k + 1)) g d) := by
  have hnp : (d.N.take d.np).length = d.np := by
    unfold chkD at hc
    simp only [Bool.and_eq_true, decide_eq_true_eq] at hc
    rw [List.length_take]; omega
  obtain ⟨oc, od, dV, kV, doc, pm, an, cdv, ct, osl, rfl, lk, hcd, _, _⟩ := F.ex
  refine ⟨fun vs H Q E ⟨_, _, _, h, _⟩ => by rw [hnp]; exact h, fun A outer s H args us vs Q E hr hg e0 hb r hsp => ?_⟩
  obtain ⟨z, as, l1, l2, sr, q⟩ := hsp
  have hl : vs.length = (d.N.take d.np).length := by rw [hnp]; exact l2
  have inK : C.K.In s.heap := e0.mod.kin.keeps fun b o e => (e0.bs b o e).1
  have kinds : ∀ y ∈ (d.N.take d.np).zip us, scope.names.lookup y.1 = some .local ∨ (scope.names.lookup y.1 = some .cell ∧ ((cellsFrom (s.heap.objs.size + 1) scope.names []).lookup y.1).isSome = true) := by
    intro y hy
    rcases S.par y.1 (List.of_mem_zip (a := y.1) (b := y.2) hy).1 with h | h
    · exact .inl h
    · exact .inr ⟨h, PySem.W.cellsFrom_some _ _ _ (.inl h)⟩
  refine codeAny_call_function hr.depth (inK _ _ lk) rfl S.co S.gen rfl (PySem.W.codeRec_of inK hcd) (hb _ _ _ _ ?_)
  refine wpAny_newFunctionEnv_cells S.kind kinds fun env he s1 ic => ?_
  subst he
  refine ⟨e0.mod.nolimit.keeps (fun b o e => ic.toInCall.keep b o ((e0.bs b o e).1)), codeAny_func ?_⟩
  have q' : match (match exSs (runF C.tb k) C.tb d.body (as ++ List.replicate (d.N.length - d.np) .un) with
        | .nx s => Rs.ok (RV.val .non) (outs d.mp s 0 as)
        | .rt r s => if isBor r then .no else .ok r (outs d.mp s 0 as)
        | .er x s => .er x (outs d.mp s 0 as)
        | _ => .no) with
      | .ok r as' => ∀ v H' z', Go C ⟨[], H, nl⟩ z H as (vs.map some) z' H' as' (vs.map some) → RRep C z' H H' as' (vs.map some) r v → Q v H'
      | .er x as' => ∀ cls dd H' z', Go C ⟨[], H, nl⟩ z H as (vs.map some) z' H' as' (vs.map some) → XRep C z' H' x cls dd → E cls dd H'
      | .no => False := by
    unfold runF at q
    rw [hd] at q
    dsimp only at q
    rw [if_pos l1] at q
    exact q
  obtain ⟨t, ht, hq⟩ := body_ok (qual := qual) (f := f) (cdv := cdv) G GI hlm gv S hc (Room.deeper (k := 3 * k + 2) hr _) hg l1 l2 sr q'
  refine wpAny_mono (ht.run [] s1 (L2.start d.N vs) H _ (inv_start S hr.hd e0 hl r ic) hq) (fun fl s' hs => ?_) fun e s' hs => hs
  cases fl with
  | next =>
    obtain ⟨σ', H', J, w⟩ := hs
    exact ⟨V.non, H', J.os, J.bare, J.base, J.hok, rfl, w⟩
  | ret u =>
    obtain ⟨v, σ', H', J, rv, w⟩ := hs
    exact ⟨v, H', J.os, J.bare, J.base, J.hok, rv, w⟩
  | brk =>
    obtain ⟨_, _, _, w⟩ := hs
    exact w.elim
  | cont =>
    obtain ⟨_, _, _, w⟩ := hs
    exact w.elim
/-- how a def of the table stands behind the top -/
structure DefAt (C : Ctx) (P : Tb) (d : Fd) : Prop where
  ex : ∃ (f : Addr) (fd : FuncData) (qual : Str) (params : Arguments) (body : List Stmt) (scope : Scope) (dvs : List V), C.mg d.name = some (.ref f) ∧ FunD C.K d.name qual params body scope dvs [] f fd ∧ FnScope d.N (d.N.take d.np) scope ∧ chkD P d body scope = true ∧ (d.lm = true → LmAt C fd.code (qual ++ ".<locals>." ++ "<lambda>")) ∧
    ∀ m, m ≤ d.np → d.np ≤ m + d.dfl.length → ∃ (dvs : List V) (ds : List Value), dvs.length + m = d.np ∧ (∀ z H, RepL C z H (d.dfl.drop (m + d.dfl.length - d.np)) dvs) ∧ Vals dvs ds ∧ L2.Binds C.K fd (d.N.take d.np) ds
theorem chkD_np {d : Fd} {body : List Stmt} {scope : Scope} (hc : chkD P d body scope = true) : (d.N.take d.np).length = d.np := by
  unfold chkD at hc
  simp only [Bool.and_eq_true, decide_eq_true_eq] at hc
  rw [List.length_take]; omega
/-- how a class of instances stands behind the top -/
structure ClsAt (C : Ctx) (P : Tb) (c : Nat) (q : Str × List Str × Nat) : Prop where
  ex : ∃ (A fI : Addr) (fd : FuncData) (d : Fd) (x qual : Str) (params : Arguments) (body : List Stmt) (scope : Scope), C.mg q.1 = some (.ref A) ∧ C.ic c = some (A, q.2.1) ∧ Cls C.K A ∧ (∀ f ∈ q.2.1, NoAttr C.K A f) ∧ Mk C.K A fI ∧ q.2.1.Nodup ∧ InsT C.K A ∧ P.tb q.2.2 = some d ∧ FunD C.K x qual params body scope [] [] fI fd ∧ FnScope d.N (d.N.take d.np) scope ∧ chkD P d body scope = true ∧ d.lm = false ∧ L2.Binds C.K fd (d.N.take d.np) []
theorem Ok.down {L : Act} {W : WX} {A : Pl} {X : Cx} (o : Ok C L W (k + 1) A X) : Ok C L W k A X where
  x := ⟨o.x.prog, o.x.w, o.x.K, o.x.mg, o.x.base, o.x.names, o.x.nd, o.x.sc, o.x.calm, o.x.room.mono (by omega), o.x.gd, o.x.tk, o.x.po, o.x.gv⟩
  kind := o.kind
  fl := o.fl
  mp := o.mp
  lm := fun h => ⟨(o.lm h).1.mono (by omega), (o.lm h).2⟩
  fr := fun h => (o.fr h).mono (by omega)
  cs := o.cs
theorem la_zero : LamOk C P 0 (runF C.tb 0) := fun h N e hd => ⟨fun _ => .no, fun A body hN hc L W X o => ⟨fun pins s σ H Q I ⟨_, _, _, q⟩ => q.elim⟩, fun p hp => .inr (.inr rfl)⟩
theorem la_succ (G : GOk C P k (runF C.tb k)) : LamOk C P (k + 1) (runF C.tb (k + 1)) := fun h N e hd => by
  refine ⟨evE (runF C.tb k) C.tb e, fun A body hN hc L W X o => okE G e L W A X o.down body hc, fun p hp => ?_⟩
  have hd' : C.tb h = some (lamFd N e) := by rw [G.tb]; exact hd
  unfold runF
  rw [hd']
  dsimp only [lamFd]
  rw [if_pos hp, Nat.sub_self, List.replicate_zero, List.append_nil]
  have e1 : exSs (runF C.tb k) C.tb [.ret e] p = match exS (runF C.tb k) C.tb (.ret e) p with
    | .nx s1 => .nx s1
    | r => r := by
    rw [exSs.eq_2]
    cases exS (runF C.tb k) C.tb (.ret e) p <;> first | rfl | (dsimp only; rw [exSs.eq_1])
  have e2 : exS (runF C.tb k) C.tb (.ret e) p = toSs (evE (runF C.tb k) C.tb e p) fun r s1 => match retV s1 r with
    | some (r, s2) => .rt r s2
    | none => .no := by unfold exS; rfl
  rw [e1, e2]
  cases ev : evE (runF C.tb k) C.tb e p with
  | no => exact .inr (.inr rfl)
  | er x s1 => exact .inr (.inl ⟨x, s1, _, rfl, rfl⟩)
  | ok r s1 =>
    dsimp only [toSs]
    cases er : retV s1 r with
    | none => exact .inr (.inr rfl)
    | some rs =>
      obtain ⟨r2, s2⟩ := rs
      dsimp only
      cases hb : isBor r2 with
      | true => exact .inr (.inr rfl)
      | false => exact .inl ⟨r, s1, r2, _, rfl, rfl⟩
theorem fn_zero {g : Nat} {d : Fd} {f : Addr} {fd : FuncData} (hl : (d.N.take d.np).length = d.np) : FnG C 0 f fd (d.N.take d.np) (spOf C (runF C.tb 0) g d) :=
  ⟨fun vs H Q E ⟨_, _, _, h, _⟩ => by rw [hl]; exact h, fun A outer s H args us vs Q E hr hg e0 hb r hsp => by
    obtain ⟨z, as, _, _, _, q⟩ := hsp
    exact q.elim⟩
/-- all defs, at every level -/
theorem defs_ok (gv : ∀ g v, C.gv g = some v → ∃ f, v = .ref f) (G0 : ∀ k cl, (∀ g d, P.tb g = some d → d.name ≠ "" → DefOk C k cl g d) → (∀ c q, P.ic[c]? = some q → PlOk C P k cl c q) → LamOk C P k cl → GOk C P k cl) (tb : C.tb = P.tb) (D : ∀ g d, P.tb g = some d → d.name ≠ "" → DefAt C P d)
    (I : ∀ (c : Nat) (nm : Str) (g : Nat) (f : Str), P.xs[c]? = some (nm, some (g, f)) → ∃ (A : Addr) (d : Fd), C.mg nm = some (.ref A) ∧ C.xc c = some (.ref A) ∧ P.tb g = some d ∧ IniIs C P d A f) (cs : ∀ c q, P.ic[c]? = some q → ClsAt C P c q) :
    ∀ k, (∀ g d, P.tb g = some d → d.name ≠ "" → DefOk C k (runF C.tb k) g d) ∧ GInit C P k (runF C.tb k) ∧ (∀ c q, P.ic[c]? = some q → PlOk C P k (runF C.tb k) c q) ∧ LamOk C P k (runF C.tb k)
  | 0 => by
    refine ⟨fun g d hd hw => ?_, fun c nm g f hc => ?_, fun c q hq => ?_, la_zero⟩
    · obtain ⟨f, fd, qual, params, body, scope, dvs, h1, h2, h3, h4, _, h5⟩ := (D g d hd hw).ex
      exact ⟨f, fd, h1, h2.kp, fn_zero (chkD_np h4), chkD_np h4, h5⟩
    · obtain ⟨A, d, m1, m2, m3, m4⟩ := I c nm g f hc
      exact ⟨A, m1, m2, ini_zero m4⟩
    · obtain ⟨A, fI, fd, d, x, qual, params, body, scope, m1, m2, m3, m4, m5, m6, m7, m8, m9, m10, m11, m12, m13⟩ := (cs c q hq).ex
      exact ⟨A, fI, fd, d, m1, m2, m3, m4, m5, m6, m7, m8, fn_zero (chkD_np m11), chkD_np m11, m13⟩
  | k + 1 => by
    obtain ⟨i1, i2, i3, i4⟩ := defs_ok gv G0 tb D I cs k
    have G := G0 _ _ i1 i3 i4
    refine ⟨fun g d hd hw => ?_, fun c nm g f hc => ?_, fun c q hq => ?_, la_succ G⟩
    · obtain ⟨f, fd, qual, params, body, scope, dvs, h1, h2, h3, h4, h6, h5⟩ := (D g d hd hw).ex
      exact ⟨f, fd, h1, h2.kp, fnG G i2 gv (by rw [tb]; exact hd) h2 h3 h4 h6, chkD_np h4, h5⟩
    · obtain ⟨A, d, m1, m2, m3, m4⟩ := I c nm g f hc
      exact ⟨A, m1, m2, ini_succ G gv (by rw [tb]; exact m3) m4⟩
    · obtain ⟨A, fI, fd, d, x, qual, params, body, scope, m1, m2, m3, m4, m5, m6, m7, m8, m9, m10, m11, m12, m13⟩ := (cs c q hq).ex
      exact ⟨A, fI, fd, d, m1, m2, m3, m4, m5, m6, m7, m8, fnG G i2 gv (by rw [tb]; exact m8) m9 m10 m11 (fun h => by rw [m12] at h; cases h), chkD_np m11, m13⟩
end
end Mp

/-! MpX: the law's call. -/
namespace Mp
open PySem PySem.Spec PyProof.Rows L2 RZ

section
variable {C : Ctx} {k : Nat} {fa a : Addr} {fd : FuncData} {x : Str} {sp : Sp} {s : Shared} {vs : List Value} {ns : List Int} {cs : List (Addr × Addr)}
/-- the script's object -/
abbrev scr (vs : List Value) : Obj := { cls := .type "list", data := .seq vs.toArray }
/-- an empty table of code objects -/
abbrev tab0 : Obj := { cls := .none, data := .fields #[] }
/-- what is tracked: the tables, at most the script -/
def scrHp (a : Addr) (vs : List Value) (ns : List Int) (t : Bool) (cs : List (Addr × Addr)) : Hp := fun b => if b ∈ cs.map (·.2) then some (.tbl #[]) else if b = a ∧ t = true then some (.frz (scr vs) (.lst (ns.map V.int))) else none
theorem scrHp_tab {t : Bool} {p : Addr × Addr} (h : p ∈ cs) : scrHp a vs ns t cs p.2 = some (.tbl #[]) := if_pos (List.mem_map.mpr ⟨p, h, rfl⟩)
theorem scrHp_some {b : Addr} {u : HO} {t : Bool} (e : scrHp a vs ns t cs b = some u) : (b ∈ cs.map (·.2) ∧ u = .tbl #[]) ∨ (b = a ∧ t = true ∧ u = .frz (scr vs) (.lst (ns.map V.int))) := by
  unfold scrHp at e
  split at e
  · rename_i h; cases e; exact .inl ⟨h, rfl⟩
  · split at e
    · rename_i h; cases e; exact .inr ⟨h.1, h.2, rfl⟩
    · cases e
theorem scrHp_none {b : Addr} {t : Bool} (h : b = a → t = false) (h2 : b ∉ cs.map (·.2)) : scrHp a vs ns t cs b = none := by
  unfold scrHp
  rw [if_neg h2]
  refine if_neg fun q => ?_
  rw [h q.1] at q
  cases q.2
/-- the heap that is fixed: all but these -/
abbrev scrBase (s : Shared) (a : Addr) (vs : List Value) (ns : List Int) (t : Bool) (cs : List (Addr × Addr)) : Heap := hidT s.heap (scrHp a vs ns t cs)
/-- what stands at the law's entry -/
structure Entry (C : Ctx) (s : Shared) (a : Addr) (vs : List Value) (ns : List Int) (t : Bool) (cs : List (Addr × Addr)) : Prop where
  scr : s.heap.get? a = some (scr vs)
  tab : ∀ p ∈ cs, s.heap.get? p.2 = some tab0
  nK : ∀ p ∈ cs, C.K.lookup p.2 = none
  hd : ∀ p ∈ cs, PySem.W.CodeHd s.heap p.1 p.2
  sK : t = true → C.K.lookup a = none
  base : C.base = scrBase s a vs ns t cs
theorem Entry.at {t : Bool} (n : Entry C s a vs ns t cs) {b : Addr} {o : Obj} (e : s.heap.get? b = some o) (h1 : ∀ us n, o.data ≠ .seq us n) (h2 : o.data ≠ .fields #[]) : C.base.get? b = some o := by
  rw [n.base]
  refine hidT_get e (scrHp_none (fun q => ?_) fun q => ?_)
  · subst q
    rw [n.scr] at e
    cases e
    exact absurd rfl (h1 _ _)
  · obtain ⟨p, hp, rfl⟩ := List.mem_map.mp q
    rw [n.tab p hp] at e
    cases e
    exact absurd rfl h2
theorem Entry.nsAt {t : Bool} (n : Entry C s a vs ns t cs) {b : Addr} {m : Str → Option Value} (h : s.heap.Ns b m) : C.base.Ns b m := by
  obtain ⟨o, es, ep, e, d, r⟩ := h
  exact ⟨o, es, ep, n.at e (fun us n z => by rw [d] at z; cases z) (fun z => by rw [d] at z; cases z), d, r⟩
theorem Entry.kIn {t : Bool} (n : Entry C s a vs ns t cs) (KX : C.K.In s.heap) : C.K.In C.base := by
  rw [n.base]
  intro b o e
  refine hidT_get (KX b o e) (scrHp_none (fun q => ?_) fun q => ?_)
  · subst q
    cases t with
    | false => rfl
    | true => rw [n.sK rfl] at e; cases e
  · obtain ⟨p, hp, rfl⟩ := List.mem_map.mp q
    rw [n.nK p hp] at e; cases e
theorem Entry.tabB {t : Bool} (n : Entry C s a vs ns t cs) (hns : s.heap.Ns mainGlobals C.mg) (hbm : ∃ (bm : Addr) (ob : Obj), C.mg "__builtins__" = some (.ref bm) ∧ bm ≠ builtinsNs ∧ s.heap.get? bm = some ob ∧ ob.cls = .type "module" ∧ ob.dict = some builtinsNs ∧ ob.data = .plain) {p : Addr × Addr} (hp : p ∈ cs) :
    LamX.TabB C.base C.mg p.1 p.2 := by
  have hTp := n.tab p hp
  refine ⟨?_, ?_, fun z => ?_⟩
  · obtain ⟨o, us, file, tf, flags, tg, inF, text, tt, e1, r1, r2, r3, r4, r5, r6, r7, r8, hne⟩ := n.hd p hp
    exact ⟨o, us, file, tf, flags, tg, inF, text, tt, n.at e1 (fun vs n z => by rw [r2] at z; cases z) (fun z => by rw [r2] at z; cases z; simp at r3), r1, r2, r3, r4, r5, r6, r7, r8, hne⟩
  · obtain ⟨bm, ob, b1, b2, b3, b4, b5, b6⟩ := hbm
    have nG : bm ≠ mainGlobals := fun q => by
      obtain ⟨o, es, ep, e, hd, _⟩ := hns
      rw [q, e] at b3
      cases b3
      rw [hd] at b6
      cases b6
    have nP : bm ≠ p.2 := fun q => by
      rw [q, hTp] at b3
      cases b3
      cases b6
    exact ⟨bm, ob, b1, b2, nG, nP, n.at b3 (fun vs n z => by rw [b6] at z; cases z) (fun z => by rw [b6] at z; cases z), b4, b5, b6⟩
  · obtain ⟨o, es, ep, e, hd, _⟩ := hns
    rw [z, hTp] at e
    cases e
    cases hd
theorem law_end {mb : Str → Option Value} {t : Bool} (KX : C.K.In s.heap) (hns : s.heap.Ns mainGlobals C.mg) (hb : s.heap.Ns builtinsNs mb) (hbb : ∀ x : Str, x ≠ "__name__" → mb x = bootBuiltins x) (hlim : s.heap.NoLimit) (hg : s.gens = #[])
    (n : Entry C s a vs ns t cs) (hi : IntsAre vs ns) (hl : ns.length ≤ sizeLine) (hr : Room (3 * k) callerA)
    (F : FnG C k fa fd [x] sp) (bind : BindsTo s fd ⟨[.ref a], []⟩ [(x, .ref a)]) (hsp : sp [.ref a] (scrHp a vs ns t cs) (fun v _ => v = .bl true) fun _ _ _ => False) :
    codeAny (model C.P C.w) callerA (.call (.ref fa) ⟨[.ref a], []⟩) (fun r s' => r = .ok (.ret (.bool true)) ∧ OldK s.heap s'.heap ∧ s'.os = s.os ∧ AllBare s'.gens) s := by
  have md : Mod C.K C.mg C.base := ⟨n.kIn KX, n.nsAt hns, ⟨mb, n.nsAt hb, hbb⟩, by
    obtain ⟨mc, h1, h2⟩ := hlim
    exact ⟨mc, n.nsAt h1, h2⟩⟩
  have ok : HOk C.P C.w (scrHp a vs ns t cs) s.heap := by
    intro b u e
    rcases scrHp_some e with ⟨h, rfl⟩ | ⟨rfl, _, rfl⟩
    · obtain ⟨p, hp, rfl⟩ := List.mem_map.mp h
      exact n.tab p hp
    · exact ⟨n.scr, by rw [List.length_map]; exact hl, vs, _, vals_ints hi, n.scr⟩
  have env : Env0 C.P C.w C.K C.mg C.base callerA [] s (scrHp a vs ns t cs) :=
    ⟨rfl, md, fun b o e => by rw [n.base] at e; exact of_hidT e, by rw [n.base]; exact Nat.le_of_eq (hidT_size _ _), trivial, fun b hb => (by cases hb), ok, .of_eq hg⟩
  refine codeAny_mono (F.run callerA [] s _ ⟨[.ref a], []⟩ [.ref a] [.ref a] _ _ hr rfl env bind (.cons rfl .nil) hsp) fun r s' h => ?_
  cases r with
  | error e =>
    obtain ⟨_, _, _, _, _, _, _, _, _, _, _, _, w⟩ := h
    exact w.elim
  | ok fl =>
    cases fl with
    | ret u =>
      obtain ⟨v, H', h1, h2, h3, h4, h5, rfl⟩ := h
      obtain rfl : u = Value.bool true := h5
      have key : ∀ b o, b ∉ cs.map (·.2) → s.heap.get? b = some o → s'.heap.get? b = some o := fun b o nb e => by
        cases q : scrHp a vs ns t cs b with
        | none => exact h3.keep b o e q (fun z => by cases z) fun z => by cases z
        | some u =>
          rcases scrHp_some q with ⟨h, _⟩ | ⟨rfl, _, rfl⟩
          · exact absurd h nb
          · have q2 := (h4 b _ (h3.frzs b _ _ q)).1
            rw [n.scr] at e
            cases e
            exact q2
      have grown : ∀ p ∈ cs, ∃ more : Array Value, s'.heap.get? p.2 = some { cls := .none, data := .fields more } := fun p hp => by
        obtain ⟨more, z⟩ := h3.tbls p.2 #[] (scrHp_tab hp)
        exact ⟨_, h4 p.2 _ z⟩
      refine ⟨rfl, ⟨fun b o e => ?_, fun b o e => ?_⟩, h1, h2⟩
      · by_cases hb : b ∈ cs.map (·.2)
        · obtain ⟨p, hp, ep⟩ := List.mem_map.mp hb
          obtain ⟨more, hm⟩ := grown p hp
          rw [← ep] at e ⊢
          rw [n.tab p hp] at e
          cases e
          exact .inr (.inl ⟨((n.hd p hp).tab (n.tab p hp)).isCodeTable, rfl, #[], more, rfl, by rw [Array.empty_append]; exact hm⟩)
        · exact .inl (key b o hb e)
      · by_cases hb : b ∈ cs.map (·.2)
        · obtain ⟨p, hp, ep⟩ := List.mem_map.mp hb
          obtain ⟨more, hm⟩ := grown p hp
          rw [← ep]
          exact ⟨_, hm⟩
        · exact ⟨o, key b o hb e⟩
    | next => exact (show False from h).elim
    | brk => exact (show False from h).elim
    | cont => exact (show False from h).elim
/-- what the head tells of the law's def -/
def LawG (l : PySem.W.OpenLaw) (w : World) (mg : Str → Option Value) (k n : Nat) (x : Str) (fa : Addr) (h : Heap) : Prop :=
  ∃ (K : PySem.W.Frag) (cs : List (Addr × Addr)), K.In h ∧ (∀ p ∈ cs, h.get? p.2 = some tab0) ∧ (∀ p ∈ cs, K.lookup p.2 = none) ∧ (∀ p ∈ cs, PySem.W.CodeHd h p.1 p.2) ∧
    ∀ base : Heap, (∀ p ∈ cs, LamX.TabB base mg p.1 p.2) → (∀ b o, h.get? b = some o → (∀ us n, o.data ≠ .seq us n) → o.data ≠ .fields #[] → base.get? b = some o) → ∃ (C : Ctx) (sp : Sp) (fd : FuncData), (∀ (s : Shared) (u : Value), K.In s.heap → BindsTo s fd ⟨[u], []⟩ [(x, u)]) ∧ C.P = l.prog ∧ C.w = w ∧ C.K = K ∧ C.mg = mg ∧ C.base = base ∧ FnG C k fa fd [x] sp ∧
      ∀ (H : Hp) (a : Addr) (ns : List Int), ns.length ≤ n → (∀ k ∈ ns, Builtin.Int.intBits k ≤ 1048576) → (∀ p ∈ cs, H p.2 = some (.tbl #[])) → FrzL K H a (ns.map V.int) → sp [.ref a] H (fun v _ => v = .bl true) fun _ _ _ => False
/-- THE END of a law's proof -/
theorem walk_end {l : PySem.W.OpenLaw} {n : Nat} {q : Program} {loose : List Str} {XP : (Str → Option Value) → Heap → Prop} {YP : World → Heap → Prop} {d : DefRec} (hn : l.most = some n) (hn2 : n ≤ sizeLine) (hdf : d.params.defaults = []) (hr : Room (3 * k) callerA)
    (F : ∀ (w : World) (mg : Str → Option Value) (fa : Addr) (h : Heap), YP w h → h.Ns mainGlobals mg → mg d.name = some (.ref fa) → LawG l w mg k n x fa h) :
    PySem.W.WalkO q loose XP YP l.row.toRowW d [] (fun f vs => PySem.call f vs) := by
  refine Att.attach_callB hn hdf fun w s₀ s₁ mg mb fa o pm cd doc a vs ns G Y ho hd hcd hmg hobj hints hlen hbits hg => ?_
  obtain ⟨K, cs, KX, hT, nT, CH, F⟩ := F w mg fa _ Y G.T.g hmg
  have nat : a ∉ cs.map (·.2) := fun q => by
    obtain ⟨p, hp, e⟩ := List.mem_map.mp q
    have z := hT p hp
    rw [e, hobj] at z
    cases z
  let C0 : Bool → Ctx := fun t => ⟨l.prog, w, K, mg, scrBase s₁ a vs ns t cs, fun _ => none, fun _ => none, fun _ => none, [], fun _ => none, fun _ _ _ _ _ _ => False⟩
  have main : ∀ t : Bool, (t = true → K.lookup a = none) → (t = false → K.lookup a ≠ none) → codeAny (model l.prog w) callerA (.call (.ref fa) ⟨[.ref a], []⟩) (fun r s' => r = .ok (.ret (.bool true)) ∧ OldK s₁.heap s'.heap ∧ s'.os = s₁.os ∧ AllBare s'.gens) s₁ := by
    intro t ht hf
    have n0 : Entry (C0 t) s₁ a vs ns t cs := ⟨hobj, hT, nT, CH, ht, rfl⟩
    obtain ⟨C, sp, fd, bind, hP, rfl, rfl, rfl, hb, FG, hsp⟩ := F (scrBase s₁ a vs ns t cs) (fun p hp => n0.tabB G.T.g G.T.bmain hp) fun b o e h1 h2 => n0.at e h1 h2
    rw [← hP]
    refine law_end (t := t) (cs := cs) KX G.T.g G.T.b G.T.builtins G.T.nolimit hg ⟨hobj, hT, nT, CH, ht, hb⟩ hints (Nat.le_trans hlen hn2) hr FG (bind s₁ (.ref a) KX) (hsp _ a ns hlen hbits (fun p hp => scrHp_tab hp) ?_)
    cases t with
    | true => exact .inl ⟨scr vs, by unfold scrHp; rw [if_neg nat, if_pos ⟨rfl, rfl⟩]⟩
    | false =>
      cases hk : C.K.lookup a with
      | none => exact absurd hk (hf rfl)
      | some u =>
        have e := KX a u hk
        rw [hobj] at e
        cases e
        exact .inr ⟨_, vs.toArray, _, hk, rfl, rfl, rfl, by
          rw [List.size_toArray, hints.length]; exact Nat.le_trans hlen hn2, by simpa using vals_ints hints⟩
  cases hk : K.lookup a with
  | none => exact main true (fun _ => hk) fun h => by cases h
  | some u => exact main false (fun h => by cases h) fun _ => by rw [hk]; simp
end
end Mp

/-! MpHd: from a table of rows to the promises of all defs. -/
namespace Mp
open PySem PySem.Spec PyProof.Rows L2 RZ

/-! ### constants -/
mutual
def repB (K : PySem.W.Frag) : PV → Value → Bool
  | .non, u => (match u with
    | .none => true
    | _ => false)
  | .bl b, u => (match u with
    | .bool c => b == c
    | _ => false)
  | .int i, u => (match u with
    | .int j _ => decide (i = j)
    | _ => false)
  | .str x, u => (match u with
    | .str y _ => decide (x = y)
    | _ => false)
  | .tup xs, u => (match u with
    | .ref a => (match K.lookup a with
      | some ⟨.type c, _, .seq its _, _⟩ => decide (c = "tuple") && (decide (its.size ≤ sizeLine) && repLB K xs its.toList)
      | _ => false)
    | _ => false)
  | .frz xs, u => (match u with
    | .ref a => (match K.lookup a with
      | some ⟨.type c, none, .seq its _, _⟩ => decide (c = "list") && (decide (its.size ≤ sizeLine) && repLB K xs its.toList)
      | _ => false)
    | _ => false)
  | _, _ => false
def repLB (K : PySem.W.Frag) : List PV → List Value → Bool
  | [], us => us.isEmpty
  | x :: xs, us => (match us with
    | u :: us => repB K x u && repLB K xs us
    | [] => false)
end
mutual
theorem repB_ok {K : PySem.W.Frag} : ∀ (x : PV) (u : Value), repB K x u = true → ∃ v, RelV v u ∧ ∀ (C : Ctx), C.K = K → ∀ z H, Rep C z H x v
  | .non, u, h => by
    unfold repB at h
    split at h
    · exact ⟨.non, rfl, fun C _ z H => .non⟩
    · cases h
  | .bl b, u, h => by
    unfold repB at h
    split at h
    · obtain rfl := eq_of_beq h; exact ⟨.bl b, rfl, fun C _ z H => .bl b⟩
    · cases h
  | .int i, u, h => by
    unfold repB at h
    split at h
    · rename_i j t; obtain rfl := of_decide_eq_true h; exact ⟨.int i, ⟨t, rfl⟩, fun C _ z H => .int i⟩
    · cases h
  | .str i, u, h => by
    unfold repB at h
    split at h
    · rename_i j t; obtain rfl := of_decide_eq_true h; exact ⟨.str i, ⟨t, rfl⟩, fun C _ z H => .str i⟩
    · cases h
  | .tup xs, u, h => by
    unfold repB at h
    split at h
    · rename_i a
      split at h
      · rename_i c od its n sl q
        simp only [Bool.and_eq_true, decide_eq_true_eq] at h
        obtain ⟨rfl, h2, h3⟩ := h
        obtain ⟨vs, r, rp⟩ := repLB_ok xs _ h3
        exact ⟨.ref a, rfl, fun C hK z H => .tup (.inr ⟨_, its, n, by rw [hK]; exact q, rfl, rfl, h2, r⟩) (rp C hK z H)⟩
      · cases h
    · cases h
  | .frz xs, u, h => by
    unfold repB at h
    split at h
    · rename_i a
      split at h
      · rename_i c its n sl q
        simp only [Bool.and_eq_true, decide_eq_true_eq] at h
        obtain ⟨rfl, h2, h3⟩ := h
        obtain ⟨vs, r, rp⟩ := repLB_ok xs _ h3
        exact ⟨.ref a, rfl, fun C hK z H => .frz (.inr ⟨_, its, n, by rw [hK]; exact q, rfl, rfl, rfl, h2, r⟩) (rp C hK z H)⟩
      · cases h
    · cases h
  | .lst xs, u, h => by simp [repB] at h
  | .ty xs, u, h => by simp [repB] at h
  | .fn xs, u, h => by simp [repB] at h
  | .dct _ _, u, h => by simp [repB] at h
  | .ins _ _, u, h => by simp [repB] at h
  | .cas _ _, u, h => by simp [repB] at h
  | .dic _, u, h => by simp [repB] at h
theorem repLB_ok {K : PySem.W.Frag} : ∀ (x : List PV) (u : List Value), repLB K x u = true → ∃ v, Vals v u ∧ ∀ (C : Ctx), C.K = K → ∀ z H, RepL C z H x v
  | [], u, h => by
    cases u with
    | nil => exact ⟨[], .nil, fun C _ z H => .nil⟩
    | cons _ _ => simp [repLB] at h
  | x :: xs, u, h => by
    cases u with
    | nil => simp [repLB] at h
    | cons u us =>
      simp only [repLB, Bool.and_eq_true] at h
      obtain ⟨v, r, rp⟩ := repB_ok x u h.1
      obtain ⟨vs, r2, rp2⟩ := repLB_ok xs us h.2
      exact ⟨v :: vs, .cons r r2, fun C hK z H => .cons (rp C hK z H) (rp2 C hK z H)⟩
end
/-! ### rows -/
/-- a def of the top: its place, its core, its defaults as the layer has them -/
structure Row where
  i : Nat
  d : Fd
  dv : List He.Dv
def dvB (K : PySem.W.Frag) : He.Dv → PV → Bool
  | .non, .non => true
  | .bl b, .bl c => b == c
  | .int i, .int j => decide (i = j)
  | .str x, .str y => decide (x = y)
  | .glo x, v => repB K v (.ref (He.ga K x))
  | _, _ => false
def dvLB (K : PySem.W.Frag) : List He.Dv → List PV → Bool
  | [], [] => true
  | x :: xs, y :: ys => dvB K x y && dvLB K xs ys
  | _, _ => false
theorem dvB_ok {K : PySem.W.Frag} {x : He.Dv} {v : PV} (h : dvB K x v = true) : ∀ (C : Ctx), C.K = K → ∀ z H, Rep C z H v (x.v K) := by
  cases x with
  | glo x =>
    obtain ⟨w, r, rp⟩ := repB_ok v (.ref (He.ga K x)) h
    have e : w = .ref (He.ga K x) := by cases w <;> first | (cases r; done) | (obtain ⟨_, e⟩ := r; cases e; done) | (cases r; rfl)
    subst e
    exact rp
  | _ => cases v <;> first | (simp [dvB] at h; done) | (simp only [dvB, beq_iff_eq, decide_eq_true_eq] at h; subst h; intro C _ z H; first | exact .bl _ | exact .int _ | exact .str _) | (intro C _ z H; exact .non)
theorem dvLB_ok {K : PySem.W.Frag} : ∀ {x : List He.Dv} {v : List PV}, dvLB K x v = true → ∀ (C : Ctx), C.K = K → ∀ z H, RepL C z H v (x.map (He.Dv.v K))
  | [], [], _ => fun C _ z H => .nil
  | [], _ :: _, h => by simp [dvLB] at h
  | _ :: _, [], h => by simp [dvLB] at h
  | x :: xs, v :: vs, h => by
    simp only [dvLB, Bool.and_eq_true] at h
    exact fun C hK z H => .cons (dvB_ok h.1 C hK z H) (dvLB_ok h.2 C hK z H)
def Row.df (P : Program) (r : Row) : DefRec := HandSHeadRun.topDef P r.i
def Row.dd (P : Program) (r : Row) : He.DefD := ⟨((r.df P).name, none), (r.df P).name, (r.df P).name, (r.df P).params, (r.df P).body, (r.df P).scope, r.dv, []⟩
/-- the rows' cores, then those of own __init__s -/
def tbOf (rs : List Row) (is : List Fd) : Nat → Option Fd := fun g => (rs.map (·.d) ++ is)[g]?
def rowC (P : Program) (T : Tb) (r : Row) : Bool := decide ((r.df P).name = r.d.name) && chkD T r.d (r.df P).body (r.df P).scope && C8.scC r.d.N (r.d.N.take r.d.np) (r.df P).scope && decide (r.dv.length = r.d.dfl.length) && (match r.d.wd with
  | none => true
  | some w => wdB T r.d w (r.df P).scope (r.df P).body && decide (r.d.dfl.length = 0))
/-- how arguments go to the parameters -/
def BindOk (params : Arguments) (ps : List Str) (q : Nat) : Prop :=
  if q = 0 then ∀ (x qual : Str) (body : List Stmt) (scope : Scope) (kV doc pm : Value) (an : Option Addr) (cdv ct : Value) (us : List Value), us.length = ps.length → bindArgs (PySem.W.fnOf x qual params body scope .none kV doc pm an cdv ct) ⟨us, []⟩ = pure (ps.zip us)
  else ∀ m, m ≤ ps.length → ps.length ≤ m + q → ∀ (x qual : Str) (body : List Stmt) (scope : Scope) (T : Addr) (kV doc pm : Value) (an : Option Addr) (cdv ct : Value) (us its : List Value), us.length = m → its.length = q →
      ∃ k, bindArgs (PySem.W.fnOf x qual params body scope (.ref T) kV doc pm an cdv ct) ⟨us, []⟩ = seqItems? (.ref T) >>= k ∧ k (some its.toArray) = pure (ps.zip (us ++ its.drop (m + q - ps.length)))
def AllBind (P : Program) : List Row → Prop
  | [] => True
  | r :: rs => BindOk (r.df P).params (r.d.N.take r.d.np) r.d.dfl.length ∧ AllBind P rs
theorem AllBind.mem {P : Program} : ∀ {rs : List Row}, AllBind P rs → ∀ r ∈ rs, BindOk (r.df P).params (r.d.N.take r.d.np) r.d.dfl.length
  | _ :: _, h, r, hr => by
    rcases List.mem_cons.mp hr with rfl | hr
    · exact h.1
    · exact AllBind.mem h.2 r hr
/-! ### the module's facts -/
/-- the facts of a class -/
def clsFa (q : Str × List Str × Nat) : List He.Fa := .glo q.1 :: .cls q.1 :: .mkr q.1 :: q.2.1.map (He.Fa.noat q.1)
def nilNames : List Str := ["range", "zip", "enumerate", "len", "abs", "int", "max", "min", "tuple", "list", "all", "any", "repr", "sum", "isinstance", "sorted", "bool", "str", "dict", "super"]
def facts (P : Program) (T : Tb) (rs : List Row) : List He.Fa := nilNames.map He.Fa.free ++ ((rs.map fun r => He.Fa.glo (r.df P).name) ++ ((T.xs.map fun q => He.Fa.glo q.1) ++ (T.xs.filter fun q => q.2.isNone).map fun q => He.Fa.exc q.1)) ++ T.ic.flatMap clsFa
/-- the i-th statement's class: its __init__ -/
def initIn : List Stmt → DefRec
  | [] => ⟨"", ⟨[], [], none, [], [], none, []⟩, [], ⟨.function, [], false, false, []⟩, default⟩
  | .FunctionDef n a b _ _ _ sc _ _ pos :: r => if n = ("__init__" : Str) then ⟨n, a, b, sc, pos⟩ else initIn r
  | _ :: r => initIn r
def initDef (P : Program) (i : Nat) : DefRec := match P.main.body[i]? with
  | some (.ClassDef _ _ _ body _ _ _ _ _ _ _) => initIn body
  | _ => initIn []
def mdd (P : Program) (nm : Str) (r : Row) : He.DefD := ⟨(nm, some "__init__"), "__init__", nm ++ ".__init__", (initDef P r.i).params, (initDef P r.i).body, (initDef P r.i).scope, [], []⟩
def fnsOf (P : Program) (T : Tb) (rs ms : List Row) : List He.DefD := rs.map (Row.dd P) ++ (T.ic.zip ms).map fun p => mdd P p.1.1 p.2
/-- the check of an __init__ of instances -/
def mC (P : Program) (T : Tb) (r : Row) : Bool := chkD T r.d (initDef P r.i).body (initDef P r.i).scope && C8.scC r.d.N (r.d.N.take r.d.np) (initDef P r.i).scope && !r.d.lm
def AllBindM (P : Program) : List Row → Prop
  | [] => True
  | r :: rs => BindOk (initDef P r.i).params (r.d.N.take r.d.np) 0 ∧ AllBindM P rs
theorem AllBindM.at {P : Program} : ∀ {rs : List Row}, AllBindM P rs → ∀ {i : Nat} {r : Row}, rs[i]? = some r → BindOk (initDef P r.i).params (r.d.N.take r.d.np) 0
  | [], _, i, r, e => by simp at e
  | _ :: _, h, 0, r, e => by simp at e; subst e; exact h.1
  | _ :: _, h, i + 1, r, e => AllBindM.at h.2 (by simpa using e)
/-- what isinstance asks -/
def insB (K : PySem.W.Frag) (A : Addr) : Bool := He.eqO (PySem.W.findIn K (.ref A) "__class__") (some (some (.builtin "object.__class__"))) && He.eqO (PySem.W.specialIn K (.builtin "object.__class__") "__get__") (some (some (.builtin "getset_descriptor.__get__"))) && decide (PySem.W.takesIn K (.builtin "object.__class__") = some true) && decide (PySem.W.mroIn K A (.type "object") = some true)
theorem insB_ok {K : PySem.W.Frag} {A : Addr} (h : insB K A = true) : InsT K A := by
  unfold insB at h
  simp only [Bool.and_eq_true, decide_eq_true_eq] at h
  exact ⟨He.eqO_ok h.1.1.1, He.eqO_ok h.1.1.2, h.1.2, h.2⟩
def kitsB (K : PySem.W.Frag) (ic : List (Str × List Str × Nat)) : Bool := (List.range ic.length).all fun i => (tyKinds.all fun t => decide (PySem.W.kitOne K (.type t) (.ref (He.ga K ((ic.map (·.1)).getD i ""))) = some false)) && (List.range ic.length).all fun j => decide (PySem.W.kitOne K (.ref (He.ga K ((ic.map (·.1)).getD i ""))) (.ref (He.ga K ((ic.map (·.1)).getD j ""))) = some (decide (i = j)))
def clsB (K : PySem.W.Frag) (ic : List (Str × List Str × Nat)) : Bool := kitsB K ic && ic.all fun q => insB K (He.ga K q.1) && decide q.2.1.Nodup
/-- the defs in which lambdas are made -/
def lmOf (P : Program) (rs : List Row) : List He.Defn := (rs.filter fun r => r.d.lm).map fun r => ((r.df P).name, none)
def lamQ (x : Str) : Str := x ++ ".<locals>." ++ "<lambda>"
def tsOf (K : PySem.W.Frag) (l : List He.Defn) : List (Addr × Str) := l.map fun p => ((He.cT K p).2, lamQ p.1)
/-- the class at C is made by one of these -/
def bseB (K : PySem.W.Frag) (C : Addr) : Bool := match K.lookup C with
  | some ⟨.type c, _, .cls cd, sl⟩ => (match cd.mro, sl.toList with
    | .ref C' :: bm, [_, _, _, _, some (.builtin n), _] => decide (c = "type") && decide (C' = C) && cd.hasDict && !cd.hasDel && ((decide (n = "LookupError.__new__") && bm == [.type "KeyError", .type "LookupError", .type "Exception", .type "BaseException", .type "object"]) || (decide (n = "IndexError.__new__") && bm == [.type "IndexError", .type "LookupError", .type "Exception", .type "BaseException", .type "object"])
      || (decide (n = "OverflowError.__new__") && bm == [.type "OverflowError", .type "ArithmeticError", .type "Exception", .type "BaseException", .type "object"]) || (decide (n = "ArithmeticError.__new__") && bm == [.type "ArithmeticError", .type "Exception", .type "BaseException", .type "object"])
      || (decide (n = "LookupError.__new__") && bm == [.type "LookupError", .type "Exception", .type "BaseException", .type "object"]))
    | _, _ => false)
  | _ => false
theorem bseB_ok {K : PySem.W.Frag} {C : Addr} (h : bseB K C = true) : ∃ (nB nId iB iId : String) (bm : List Value), Bse nB nId iB iId bm ∧ ∃ nm q N bs sn sub ab col dd k0 k1 k2 k3 k5, K.lookup C = some (excClassObj nm q C N bs bm true sn sub ab col dd k0 k1 k2 k3 k5 nId) := by
  unfold bseB at h
  split at h
  · rename_i c dd cd sl ho
    split at h
    · rename_i C' bm k0 k1 k2 k3 n k5 hm hs
      simp only [Bool.and_eq_true, decide_eq_true_eq, Bool.not_eq_true'] at h
      obtain ⟨⟨⟨⟨rfl, rfl⟩, hd⟩, hdel⟩, h⟩ := h
      obtain ⟨nm, bs, mro, ns, qn, hdd, sn, sub, ab, col, del⟩ := cd
      dsimp only at hm hd hdel
      subst hm hd hdel
      have hsl : sl = #[k0, k1, k2, k3, some (.builtin n), k5] := by
        obtain ⟨l⟩ := sl
        simp only at hs
        rw [hs]
      subst hsl
      simp only [Bool.or_eq_true, Bool.and_eq_true, decide_eq_true_eq, beq_iff_eq] at h
      rcases h with (((⟨rfl, rfl⟩ | ⟨rfl, rfl⟩) | ⟨rfl, rfl⟩) | ⟨rfl, rfl⟩) | ⟨rfl, rfl⟩
      · exact ⟨_, _, _, _, _, bse_key, nm, qn, ns, bs, sn, sub, ab, col, dd, k0, k1, k2, k3, k5, ho⟩
      · exact ⟨_, _, _, _, _, bse_index, nm, qn, ns, bs, sn, sub, ab, col, dd, k0, k1, k2, k3, k5, ho⟩
      · exact ⟨_, _, _, _, _, bse_over, nm, qn, ns, bs, sn, sub, ab, col, dd, k0, k1, k2, k3, k5, ho⟩
      · exact ⟨_, _, _, _, _, bse_arith, nm, qn, ns, bs, sn, sub, ab, col, dd, k0, k1, k2, k3, k5, ho⟩
      · exact ⟨_, _, _, _, _, bse_look, nm, qn, ns, bs, sn, sub, ab, col, dd, k0, k1, k2, k3, k5, ho⟩
    · cases h
  · cases h
def fileB (P : Program) (K : PySem.W.Frag) (c : Addr) : Bool := match K.lookup c with
  | some ⟨_, _, .fields vs, _⟩ => (match (vs[2]? : Option Value) with
    | some (.str file _) => P.main.file == file
    | _ => false)
  | _ => false
theorem fileB_ok {P : Program} {K : PySem.W.Frag} {c : Addr} (h : fileB P K c = true) : ∃ (vs : Array Value) (file : Str) (tf : Tok) (ccl : Value) (cdd : Option Addr) (ccs : Array (Option Value)), K.lookup c = some ⟨ccl, cdd, .fields vs, ccs⟩ ∧ vs[2]? = some (.str file tf) ∧ ((P.main.file : Str) == file) = true := by
  unfold fileB at h
  split at h
  · rename_i ccl cdd vs ccs ho
    split at h
    · rename_i file tf hv
      exact ⟨vs, file, tf, ccl, cdd, ccs, ho, hv, h⟩
    · cases h
  · cases h
def cellB (K : PySem.W.Frag) (c A : Addr) : Bool := match K.lookup c with
  | some ⟨_, _, .cell (some (.ref D)), _⟩ => D == A
  | _ => false
theorem cellB_ok {K : PySem.W.Frag} {c A : Addr} (h : cellB K c A = true) : ∃ (cl : Value) (cld : Option Addr) (csl : Array (Option Value)), K.lookup c = some ⟨cl, cld, .cell (some (.ref A)), csl⟩ := by
  unfold cellB at h
  split at h
  · rename_i cl cld D csl ho
    obtain rfl := beq_iff_eq.mp h
    exact ⟨cl, cld, csl, ho⟩
  · cases h
/-- the text of an own __init__ -/
def iniTB (P : Program) (T : Tb) (K : PySem.W.Frag) (A : Addr) (f : Str) (d : Fd) (fd : FuncData) : Bool := match fd.params, fd.body, fd.closure, fd.code, fd.defaults, fd.kwdefaults, d.body with
  | ⟨[], [a1, a2], none, [], [], none, []⟩, .stmts [.Expr (.Call (.Attribute (.Call (.Name su _) [] [] _) ini p2) [e] [] p3) _, .Assign [.Attribute (.Name n1 _) f2 _] (.Name n2 _) _], [(cn, cc)], .ref cda, .none, .none, [.exp E] =>
    decide (su = ("super" : Str)) && decide (ini = ("__init__" : Str)) && decide (n1 = a1.arg) && decide (f2 = f) && decide (n2 = a2.arg) && decide (cn = ("__class__" : Str)) && decide (fd.globals = mainGlobals) && decide (fd.builtins = builtinsNs) && PySem.W.codeIn K (.ref cda) fd.qualname && fileB P K cda && cellB K cc A
      && decide (d.N = [a1.arg, a2.arg, "__class__"]) && decide (d.np = 2) && NdefX.nscB d.N [a1.arg, a2.arg] ["__class__"] fd.scope && decide (fd.scope.names.lookup ("super" : Str) = some .globalImplicit) && chkE T ⟨fd.scope, d.N, [], false, false, []⟩ E e && noStar e && (p2.endLine == p3.line) && okName a1.arg && okName a2.arg && !(P.main.scope.names.lookup ("super" : Str)).isSome
  | _, _, _, _, _, _, _ => false
/-- an own class of errors with its own __init__ -/
def iniB (P : Program) (T : Tb) (K : PySem.W.Frag) (nm : Str) (g : Nat) (f : Str) : Bool := bseB K (He.ga K nm) && xfB K (He.ga K nm) && He.eqO (PySem.W.findIn K (.ref (He.ga K nm)) f) (some none) && He.eqO (PySem.W.findIn K (.ref (He.ga K nm)) "__setattr__") (some (some (.builtin "object.__setattr__"))) && decide (PySem.W.subIn K (.ref (He.ga K nm)) (.type "BaseException") = some true) && decide (PySem.W.typeIn K (.ref (He.ga K nm)) = some (.type "type")) && PySem.W.keepIn K (.ref (He.ga K nm)) && (match PySem.W.findIn K (.ref (He.ga K nm)) "__init__" with
  | some (some (.ref fI)) => (match K.lookup fI, T.tb g with
    | some ⟨.type c, _, .func fd, _⟩, some d => decide (c = "function") && iniTB P T K (He.ga K nm) f d fd
    | _, _ => false)
  | _ => false)
/-- the classes of errors tell each other apart -/
def exmB (K : PySem.W.Frag) (xs : List Str) : Bool := (List.range xs.length).all fun i => (List.range xs.length).all fun j => decide (PySem.W.exmOne K (.ref (He.ga K (xs.getD i ""))) (.ref (He.ga K (xs.getD j ""))) = some (decide (i = j)))
def csB (K : PySem.W.Frag) (q : Str × PV) : Bool := match PySem.W.nsIn K mainGlobals q.1 with
  | some (some u) => repB K q.2 u
  | _ => false
def exB (P : Program) (T : Tb) (rs : List Row) (K : PySem.W.Frag) : Bool := clsB K T.ic && (T.cs.all (csB K) && (rs.all (fun r => dvLB K r.dv r.d.dfl) && (exmB K (T.xs.map (·.1)) && (T.xs.all (fun q => match q.2 with
  | some (g, f) => iniB P T K q.1 g f
  | none => true) && (lmOf P rs).all fun p => (lmOf P rs).all fun q => !decide ((He.cT K p).2 = (He.cT K q).2) || decide (p.1 = q.1)))))
end Mp

/-! MpHe: the head's facts, the promises of all defs, the law. -/
namespace Mp
open PySem PySem.Spec PyProof.Rows L2 RZ
def ntB (g : Addr → Option Obj) : Bool := match g cStatics with
  | some o => (match PySem.W.nsIn [(cStatics, o)] cStatics "thirdparty.any" with
    | some none => true
    | _ => false)
  | none => false
theorem ntB_ok {h : Heap} (e : ntB h.get? = true) : NoThird h := by
  unfold ntB at e
  split at e
  · rename_i o ho
    split at e
    · rename_i hn
      exact ⟨o, ho, hn⟩
    · cases e
  · cases e
/-! what the module's names reach, level by level, seen ones in a bit set -/
def addN {α : Type} : List Addr → Nat → List Addr → (Nat → List Addr → α) → α
  | [], vis, nx, k => k vis nx
  | a :: as, vis, nx, k => match Nat.land 1 (Nat.shiftRight vis a) with
    | 0 => HandSHeadRun.frNat a fun a => HandSHeadRun.frNat (Nat.lor vis (Nat.shiftLeft 1 a)) fun vis => addN as vis (a :: nx) k
    | _ + 1 => addN as vis nx k
def lvlN {α : Type} (g : Addr → Option Obj) : List Addr → Nat → List Addr → (Nat → List Addr → α) → α
  | [], vis, nx, k => k vis nx
  | a :: as, vis, nx, k => match g a with
    | some o => addN (He.refsD o) vis nx fun vis nx => lvlN g as vis nx k
    | none => lvlN g as vis nx k
def bfsN {α : Type} (g : Addr → Option Obj) : Nat → List Addr → Nat → List Addr → (List Addr → α) → α
  | 0, _, _, all, k => k all
  | n + 1, fr, vis, all, k => lvlN g fr vis [] fun vis nx => bfsN g n nx vis (all ++ nx) k
def frK {α : Type} (g : Addr → Option Obj) : List Addr → (PySem.W.Frag → α) → α
  | [], k => k []
  | a :: as, k => match g a with
    | none => frK g as k
    | some ⟨c, d, dt, sl⟩ => match He.emptyTab ⟨c, d, dt, sl⟩ with
      | true => frK g as k
      | false => frK g as fun K => k ((a, ⟨c, d, dt, sl⟩) :: K)
theorem frNat_is {α : Type} (n : Nat) (k : Nat → α) : HandSHeadRun.frNat n k = k n := by cases n <;> rfl
theorem addN_is {α : Type} : ∀ (as : List Addr) (vis : Nat) (nx : List Addr) (k : Nat → List Addr → α), ∃ v l, addN as vis nx k = k v l
  | [], vis, nx, k => ⟨vis, nx, rfl⟩
  | a :: as, vis, nx, k => by
    unfold addN
    split
    · rw [frNat_is, frNat_is]
      exact addN_is as _ _ k
    · exact addN_is as vis nx k
theorem lvlN_is {α : Type} {g : Addr → Option Obj} : ∀ (as : List Addr) (vis : Nat) (nx : List Addr) (k : Nat → List Addr → α), ∃ v l, lvlN g as vis nx k = k v l
  | [], vis, nx, k => ⟨vis, nx, rfl⟩
  | a :: as, vis, nx, k => by
    unfold lvlN
    split
    · rename_i o _
      obtain ⟨v, l, e⟩ := addN_is (He.refsD o) vis nx fun vis nx => lvlN g as vis nx k
      rw [e]
      exact lvlN_is as v l k
    · exact lvlN_is as vis nx k
theorem bfsN_is {α : Type} {g : Addr → Option Obj} : ∀ (n : Nat) (fr : List Addr) (vis : Nat) (all : List Addr) (k : List Addr → α), ∃ as, bfsN g n fr vis all k = k as
  | 0, _, _, all, k => ⟨all, rfl⟩
  | n + 1, fr, vis, all, k => by
    unfold bfsN
    obtain ⟨v, l, e⟩ := lvlN_is (g := g) fr vis [] fun vis nx => bfsN g n nx vis (all ++ nx) k
    rw [e]
    exact bfsN_is n l v _ k
theorem frK_is {α : Type} {g : Addr → Option Obj} : ∀ (as : List Addr) (k : PySem.W.Frag → α), frK g as k = k (He.frT g as)
  | [], k => rfl
  | a :: as, k => by
    unfold frK He.frT He.frG
    rw [List.filterMap_cons]
    cases hg : g a with
    | none => exact frK_is as k
    | some o =>
      obtain ⟨c, d, dt, sl⟩ := o
      dsimp only [Option.map_some]
      rw [List.filter_cons]
      cases he : He.emptyTab ⟨c, d, dt, sl⟩ with
      | true => exact frK_is as k
      | false => exact frK_is as _
/-- what is seen -/
def seeK (g : Addr → Option Obj) (fa : List He.Fa) (fn : List He.DefD) (tf : List He.Defn) (ex : PySem.W.Frag → Bool) (K : PySem.W.Frag) : He.AlX := (He.obsT fa fn [] K, ex K && He.tabsB g tf K)
def obsN (n : Nat) (fa : List He.Fa) (fn : List He.DefD) (tf : List He.Defn) (ex : PySem.W.Frag → Bool) (g : Addr → Option Obj) : He.AlX := bfsN g n [mainGlobals] (Nat.shiftLeft 1 mainGlobals) [mainGlobals] fun as => frK g as fun K => seeK g fa fn tf ex K
theorem says_seen {fa : List He.Fa} {fn : List He.DefD} {tf : List He.Defn} {ex : PySem.W.Frag → Bool} {w : World} {h : Heap} {as : List Addr} (e : seeK h.get? fa fn tf ex (He.frT h.get? as) = He.valX fn [] w) : He.SaysX fa fn [] tf ex w h (He.frT h.get? as) := by
  have e1 := congrArg Prod.fst e
  obtain ⟨e2, e3⟩ := He.ba (show (ex _ && He.tabsB h.get? tf _) = true from congrArg Prod.snd e)
  have at_ : ∀ p ∈ tf, PySem.W.codeHdIn (He.frT h.get? as) (He.cT (He.frT h.get? as) p).1 (He.cT (He.frT h.get? as) p).2 = true ∧ ∃ o, h.get? (He.cT (He.frT h.get? as) p).2 = some o ∧ He.emptyTab o = true := fun p hp => by
    obtain ⟨h1, h2⟩ := He.ba (List.all_eq_true.mp e3 p hp)
    split at h2
    · exact ⟨h1, _, by assumption, h2⟩
    · cases h2
  refine ⟨e1, e2, fun p hp => (at_ p hp).1, fun p hp => ?_, fun p hp => ?_⟩
  · obtain ⟨o, h1, h2⟩ := (at_ p hp).2
    exact He.frT_none h1 h2
  · obtain ⟨o, h1, h2⟩ := (at_ p hp).2
    rw [h1, He.emptyTab_eq h2]
theorem says_of {n : Nat} {fa : List He.Fa} {fn : List He.DefD} {tf : List He.Defn} {ex : PySem.W.Frag → Bool} {w : World} {h : Heap} (e : obsN n fa fn tf ex h.get? = He.valX fn [] w) : ∃ K : PySem.W.Frag, K.In h ∧ He.SaysX fa fn [] tf ex w h K := by
  unfold obsN at e
  obtain ⟨as, e1⟩ := bfsN_is (g := h.get?) n [mainGlobals] (Nat.shiftLeft 1 mainGlobals) [mainGlobals] fun as => frK h.get? as fun K => seeK h.get? fa fn tf ex K
  rw [e1, frK_is] at e
  exact ⟨_, He.frT_in, says_seen e⟩
/-- the Hook -/
def hookM (n : Nat) (fa : List He.Fa) (fn : List He.DefD) (tf : List He.Defn) (ex : PySem.W.Frag → Bool) : PySem.W.Hook where
  α := He.AlX × Bool
  obs := fun s => (obsN n fa fn tf ex s.heap.get?, ntB s.heap.get?)
  val := fun w => (He.valX fn [] w, true)
  says := fun w h => (∃ K : PySem.W.Frag, K.In h ∧ He.SaysX fa fn [] tf ex w h K) ∧ NoThird h
  of := fun _ _ e => ⟨says_of (congrArg (fun z : He.AlX × Bool => z.1) e), ntB_ok (congrArg (fun z : He.AlX × Bool => z.2) e)⟩
  keeps := fun _ _ _ ⟨⟨K, hK, c⟩, nt⟩ k => ⟨⟨K, PySem.W.Frag.In.keeps hK k, ⟨c.t, c.more, c.hd, c.out, fun p hp => k _ _ (c.empty p hp)⟩⟩, let ⟨o, e1, e2⟩ := nt; ⟨o, k _ _ e1, e2⟩⟩
theorem obsM_eq {n : Nat} {fa : List He.Fa} {fn : List He.DefD} {tf : List He.Defn} {ex : PySem.W.Frag → Bool} {g : Addr → Option Obj} {s : Shared} (h : ∀ a, g a = s.heap.get? a) : ((obsN n fa fn tf ex g, ntB g) : He.AlX × Bool) = (hookM n fa fn tf ex).obs s := by
  have e : g = s.heap.get? := funext h
  rw [e] <;> rfl
section
variable {P : Program} {T : Tb} {rs ms : List Row} {is : List Fd} {K : PySem.W.Frag} {w : World} {mg : Str → Option Value} {h : Heap}
theorem lookup_some {α : Type} {x : Str} {v : α} : ∀ {l : List (Str × α)}, l.lookup x = some v → (x, v) ∈ l
  | (y, u) :: l, e => by
    rw [List.lookup_cons] at e
    cases q : (x == y) with
    | true => rw [q] at e; cases e; rw [beq_iff_eq.mp q]; exact List.mem_cons_self
    | false => rw [q] at e; exact List.mem_cons_of_mem _ (lookup_some e)
/-- a def's value -/
def gvOf (T : Tb) (K : PySem.W.Frag) (g : Nat) : Option V := match T.tb g with
  | some d => if d.name = ("" : Str) then none else some (.ref (He.ga K d.name))
  | none => none
theorem gvOf_some {T : Tb} {K : PySem.W.Frag} {g : Nat} {v : V} (h : gvOf T K g = some v) : ∃ d, T.tb g = some d ∧ d.name ≠ "" ∧ v = .ref (He.ga K d.name) := by
  unfold gvOf at h
  split at h
  · rename_i d hd
    split at h
    · cases h
    · rename_i hn; cases h; exact ⟨d, hd, hn, rfl⟩
  · cases h
/-- the context of a law over base -/
abbrev ctx (P : Program) (T : Tb) (rs : List Row) (w : World) (K : PySem.W.Frag) (mg : Str → Option Value) (base : Heap) : Ctx := ⟨P, w, K, mg, base, T.tb, gvOf T K, fun c => (T.xs[c]?).map fun q => .ref (He.ga K q.1), tsOf K (lmOf P rs), fun c => (T.ic[c]?).map fun q => (He.ga K q.1, q.2.1), fun sc N h params body scope => lamChk T sc N h params body scope = true⟩
/-- what is asked of the table -/
structure TbOk (T : Tb) (rs ms : List Row) (is : List Fd) : Prop where
  tb : T.tb = tbOf rs is
  ab : isAbs T.tb = false
  is : ∀ d ∈ is, d.name = "" ∧ d.wd = none
  ic : ∀ (c : Nat) (q : Str × List Str × Nat), T.ic[c]? = some q → ∃ r : Row, ms[c]? = some r ∧ T.tb q.2.2 = some r.d
theorem TbOk.row (t : TbOk T rs ms is) {g : Nat} {d : Fd} (hd : T.tb g = some d) (hn : d.name ≠ "" ∨ d.wd ≠ none) : ∃ r ∈ rs, d = r.d := by
  rw [t.tb] at hd
  unfold tbOf at hd
  rcases List.mem_append.mp (List.mem_of_getElem? hd) with h | h
  · obtain ⟨r, h1, h2⟩ := List.mem_map.mp h
    exact ⟨r, h1, h2.symm⟩
  · obtain ⟨h1, h2⟩ := t.is d h
    rcases hn with hn | hn
    · exact absurd h1 hn
    · exact absurd h2 hn
/-- the parts of exB -/
structure ExIs (P : Program) (T : Tb) (rs : List Row) (K : PySem.W.Frag) : Prop where
  ic : clsB K T.ic = true
  cs : ∀ q ∈ T.cs, csB K q = true
  dv : ∀ r ∈ rs, dvLB K r.dv r.d.dfl = true
  xm : exmB K (T.xs.map (·.1)) = true
  ini : ∀ (nm : Str) (g : Nat) (f : Str), (nm, some (g, f)) ∈ T.xs → iniB P T K nm g f = true
  lm : ∀ p ∈ lmOf P rs, ∀ q ∈ lmOf P rs, (He.cT K p).2 = (He.cT K q).2 → p.1 = q.1
theorem exIs (e : exB P T rs K = true) : ExIs P T rs K := by
  unfold exB at e
  obtain ⟨h0, e⟩ := He.ba e
  obtain ⟨h1, e⟩ := He.ba e
  obtain ⟨h2, e⟩ := He.ba e
  obtain ⟨h3, e⟩ := He.ba e
  obtain ⟨h4, h5⟩ := He.ba e
  refine ⟨h0, List.all_eq_true.mp h1, List.all_eq_true.mp h2, h3, fun nm g f hm => List.all_eq_true.mp h4 _ hm, fun p hp q hq hpq => ?_⟩
  have z := List.all_eq_true.mp (List.all_eq_true.mp h5 p hp) q hq
  rw [Bool.or_eq_true, Bool.not_eq_true', decide_eq_false_iff_not, decide_eq_true_eq] at z
  exact z.resolve_left fun n => n hpq
theorem exm_at {xs : List Str} (h : exmB K xs = true) {i j : Nat} {x y : Str} (hi : xs[i]? = some x) (hj : xs[j]? = some y) : PySem.W.exmOne K (.ref (He.ga K x)) (.ref (He.ga K y)) = some (decide (i = j)) := by
  unfold exmB at h
  have li := (List.getElem?_eq_some_iff.mp hi).1
  have lj := (List.getElem?_eq_some_iff.mp hj).1
  have z := of_decide_eq_true (List.all_eq_true.mp (List.all_eq_true.mp h i (List.mem_range.mpr li)) j (List.mem_range.mpr lj))
  rwa [List.getD_eq_getElem?_getD, List.getD_eq_getElem?_getD, hi, hj] at z
abbrev Says (P : Program) (T : Tb) (rs ms : List Row) (w : World) (h : Heap) (K : PySem.W.Frag) : Prop := He.SaysX (facts P T rs) (fnsOf P T rs ms) [] (lmOf P rs) (exB P T rs) w h K
theorem fact_row (c : Says P T rs ms w h K) {r : Row} (hr : r ∈ rs) : (He.Fa.glo (r.df P).name).ok K = true := c.t.d.facts (List.mem_append_left _ (List.mem_append_right _ (List.mem_append_left _ (List.mem_map.mpr ⟨r, hr, rfl⟩))))
theorem fact_cls (c : Says P T rs ms w h K) {q : Str × Option (Nat × Str)} (hq : q ∈ T.xs) : (He.Fa.glo q.1).ok K = true := c.t.d.facts (List.mem_append_left _ (List.mem_append_right _ (List.mem_append_right _ (List.mem_append_left _ (List.mem_map.mpr ⟨q, hq, rfl⟩)))))
theorem fact_exc (c : Says P T rs ms w h K) {q : Str × Option (Nat × Str)} (hq : q ∈ T.xs) (hn : q.2 = none) : (He.Fa.exc q.1).ok K = true := c.t.d.facts (List.mem_append_left _ (List.mem_append_right _ (List.mem_append_right _ (List.mem_append_right _ (List.mem_map.mpr ⟨q, List.mem_filter.mpr ⟨hq, by rw [hn]; rfl⟩, rfl⟩)))))
theorem fact_free (KX : K.In h) (G : h.Ns mainGlobals mg) (c : Says P T rs ms w h K) {x : Str} (hx : x ∈ nilNames) : mg x = none := He.free_ok KX G (c.t.d.facts (f := .free x) (List.mem_append_left _ (List.mem_append_left _ (List.mem_map.mpr ⟨x, hx, rfl⟩))))
theorem ini_is {base : Heap} (KX : K.In h) (G : h.Ns mainGlobals mg) (c : Says P T rs ms w h K) (nt : NoThird base) {nm : Str} {g : Nat} {f : Str} (hq : (nm, some (g, f)) ∈ T.xs) : ∃ d, T.tb g = some d ∧ IniIs (ctx P T rs w K mg base) T d (He.ga K nm) f := by
  have e := (exIs c.more).ini nm g f hq
  unfold iniB at e
  simp only [Bool.and_eq_true, decide_eq_true_eq] at e
  obtain ⟨⟨⟨⟨⟨⟨⟨e1, e2⟩, e3⟩, e4⟩, e5⟩, e6⟩, e7⟩, e8⟩ := e
  split at e8
  · rename_i fI hfi
    split at e8
    · rename_i cN od fd osl d hl hd
      simp only [Bool.and_eq_true, decide_eq_true_eq] at e8
      obtain ⟨rfl, e8⟩ := e8
      refine ⟨d, hd, ⟨bseB_ok e1, He.eqO_ok e4, e5, e6, e7⟩, He.eqO_ok e3, nt, ?_⟩
      unfold iniTB at e8
      split at e8
      · rename_i a1 a2 su p0 p1 ini p2 e p3 p4 n1 p5 f2 p6 n2 p7 p8 cn cc cda E hp hb hc hcd hdf hkw hbd
        simp only [Bool.and_eq_true, decide_eq_true_eq, Bool.not_eq_true'] at e8
        obtain ⟨⟨⟨⟨⟨⟨⟨⟨⟨⟨⟨⟨⟨⟨⟨⟨⟨⟨⟨⟨rfl, rfl⟩, rfl⟩, rfl⟩, rfl⟩, rfl⟩, g1⟩, g2⟩, g3⟩, g4⟩, g5⟩, g6⟩, g7⟩, g8⟩, g9⟩, g10⟩, g11⟩, g12⟩, g13⟩, g14⟩, g15⟩ := e8
        obtain ⟨m1, m2, m3, m4, m5, m6, m7, m8, m9, m10, m11, m12, m13, m14, m15⟩ := fd
        dsimp only at hp hb hc hcd hdf hkw g1 g2 g3 g8 g9 g10
        subst hp hb hc hcd hdf hkw g1 g2
        refine ⟨fI, cc, cda, m1, m2, a1, a2, e, p0, p1, p2, p3, p4, p5, p6, p7, p8, m5, m10, m11, m14, .type "function", m12, od, osl, E, ?_⟩
        exact ⟨hfi, by show (K.lookup fI).map (·.cls) = some (.type "function"); rw [hl]; rfl, hl, g3, fileB_ok g4, cellB_ok g5, g6, g7, hbd, NdefX.nscope_by g8, g9, g10, g11, g12, g13, g14, g15, fact_free KX G c (by decide +kernel)⟩
      · cases e8
    · cases e8
  · cases e8
theorem word_at {base : Heap} (KX : K.In h) (G : h.Ns mainGlobals mg) (c : Says P T rs ms w h K) {r : Row} (hr : r ∈ rs) (hc : rowC P T r = true) (hb : BindOk (r.df P).params (r.d.N.take r.d.np) r.d.dfl.length) {wd : Wd} (hw : r.d.wd = some wd) :
    WordAt (ctx P T rs w K mg base) T r.d wd := by
  unfold rowC at hc
  rw [hw] at hc
  simp only [Bool.and_eq_true, decide_eq_true_eq] at hc
  obtain ⟨⟨⟨⟨h1, h2⟩, h3⟩, h4⟩, h5, h6⟩ := hc
  obtain ⟨fd, F⟩ := c.t.d.defs (d := r.dd P) (List.mem_append_left _ (List.mem_map.mpr ⟨r, hr, rfl⟩))
  have gl := He.glo_ok KX G (fact_row c hr)
  have F' : FunD K (r.df P).name (r.df P).name (r.df P).params (r.df P).body (r.df P).scope (r.dv.map (He.Dv.v K)) [] (He.ga K (r.df P).name) fd := F
  have e0 : r.dv = [] := List.length_eq_zero_iff.mp (by omega)
  rw [e0] at F'
  unfold BindOk at hb
  rw [if_pos h6] at hb
  refine ⟨He.ga K (r.df P).name, fd, (r.df P).params, (r.df P).body, (r.df P).scope, by rw [← h1]; exact gl, by rw [← h1]; exact F', C8.fnScope_by h3, h5, FunD.bindsN F' fun kV doc pm an cdv ct us hl => hb _ _ _ _ _ _ _ _ _ _ us hl⟩
theorem fact_ic (c : Says P T rs ms w h K) {q : Str × List Str × Nat} (hq : q ∈ T.ic) {f : He.Fa} (hf : f ∈ clsFa q) : f.ok K = true := c.t.d.facts (List.mem_append_right _ (List.mem_flatMap.mpr ⟨q, hq, hf⟩))
theorem kits_at {ic : List (Str × List Str × Nat)} (h : kitsB K ic = true) {i j : Nat} {q q' : Str × List Str × Nat} (hi : ic[i]? = some q) (hj : ic[j]? = some q') : PySem.W.kitOne K (.ref (He.ga K q.1)) (.ref (He.ga K q'.1)) = some (decide (i = j)) ∧ ∀ t ∈ tyKinds, PySem.W.kitOne K (.type t) (.ref (He.ga K q.1)) = some false := by
  unfold kitsB at h
  have li := (List.getElem?_eq_some_iff.mp hi).1
  have lj := (List.getElem?_eq_some_iff.mp hj).1
  have z := List.all_eq_true.mp h i (List.mem_range.mpr li)
  rw [Bool.and_eq_true] at z
  have zj := of_decide_eq_true (List.all_eq_true.mp z.2 j (List.mem_range.mpr lj))
  rw [List.getD_eq_getElem?_getD, List.getD_eq_getElem?_getD, List.getElem?_map, List.getElem?_map, hi, hj] at zj
  refine ⟨zj, fun t ht => ?_⟩
  have zt := of_decide_eq_true (List.all_eq_true.mp z.1 t ht)
  rwa [List.getD_eq_getElem?_getD, List.getElem?_map, hi] at zt
theorem cls_at {base : Heap} (tk : TbOk T rs ms is) (KX : K.In h) (G : h.Ns mainGlobals mg) (c : Says P T rs ms w h K) (hm : ms.all (mC P T) = true) (hb : AllBindM P ms) {i : Nat} {q : Str × List Str × Nat} (hq : T.ic[i]? = some q) : ClsAt (ctx P T rs w K mg base) T i q := by
  obtain ⟨r, hr, ht⟩ := tk.ic i q hq
  have hqm := List.mem_of_getElem? hq
  have hrow := List.all_eq_true.mp hm r (List.mem_of_getElem? hr)
  unfold mC at hrow
  simp only [Bool.and_eq_true, Bool.not_eq_true'] at hrow
  obtain ⟨⟨h1, h2⟩, h3⟩ := hrow
  have hz : (q, r) ∈ T.ic.zip ms := List.mem_of_getElem? (i := i) (List.getElem?_zip_eq_some.mpr ⟨hq, hr⟩)
  obtain ⟨fd, F⟩ := c.t.d.defs (d := mdd P q.1 r) (List.mem_append_right _ (List.mem_map.mpr ⟨(q, r), hz, rfl⟩))
  have F' : FunD K "__init__" (q.1 ++ ".__init__") (initDef P r.i).params (initDef P r.i).body (initDef P r.i).scope [] [] (He.ma K (He.ga K q.1) "__init__") fd := F
  have e0 := (exIs c.more).ic
  unfold clsB at e0
  rw [Bool.and_eq_true] at e0
  have e1 := List.all_eq_true.mp e0.2 q hqm
  rw [Bool.and_eq_true, decide_eq_true_eq] at e1
  have bm := hb.at hr
  unfold BindOk at bm
  rw [if_pos rfl] at bm
  refine ⟨He.ga K q.1, He.ma K (He.ga K q.1) "__init__", fd, r.d, "__init__", q.1 ++ ".__init__", _, _, _, He.glo_ok KX G (fact_ic c hqm (by simp [clsFa])), by show (T.ic[i]?).map _ = _; rw [hq]; rfl, He.cls_ok (fact_ic c hqm (f := .cls q.1) (by simp [clsFa])), fun f hf => He.noat_ok (fact_ic c hqm (f := .noat q.1 f) (by simp [clsFa, hf])), He.mkr_ok (fact_ic c hqm (f := .mkr q.1) (by simp [clsFa])), e1.2, insB_ok e1.1, ht, F', C8.fnScope_by h2, h1, h3,
    FunD.bindsN F' fun kV doc pm an cdv ct us hl => bm _ _ _ _ _ _ _ _ _ _ us hl⟩
theorem gok {base : Heap} (tk : TbOk T rs ms is) (KX : K.In h) (G : h.Ns mainGlobals mg) (c : Says P T rs ms w h K) (hc : rs.all (rowC P T) = true) (hb : AllBind P rs) (k : Nat) (cl : Cl) (D : ∀ g d, T.tb g = some d → d.name ≠ "" → DefOk (ctx P T rs w K mg base) k cl g d) (PL : ∀ c q, T.ic[c]? = some q → PlOk (ctx P T rs w K mg base) T k cl c q) (LA : LamOk (ctx P T rs w K mg base) T k cl) : GOk (ctx P T rs w K mg base) T k cl := by
  have fr : ∀ x ∈ nilNames, mg x = none := fun x hx => fact_free KX G c hx
  have ex := exIs c.more
  have xcv : ∀ {c : Nat} {A : Value}, (ctx P T rs w K mg base).xc c = some A → ∃ q, T.xs[c]? = some q ∧ A = .ref (He.ga K q.1) := fun {c A} e => by
    obtain ⟨q, h1, h2⟩ := Option.map_eq_some_iff.mp e
    exact ⟨q, h1, h2.symm⟩
  refine ⟨rfl, fun x v hv => ?_, fun n hn => ?_, fun b => ?_, fr _ (by decide +kernel), fr _ (by decide +kernel), fr _ (by decide +kernel), D, fun i q hq => ?_, fun i j A A' hi hj => ?_, fun i A hi => ?_, tk.ab, fun g d wd hd hw => ?_, fun g d hd hn => ?_, fun g v e => ?_, PL, fun i A n e => ?_, fun i j A A' n n' hi hj => ?_, fun i A n t hi ht => ?_, fun _ _ _ _ _ _ => Iff.rfl, LA⟩
  · have h1 := ex.cs (x, v) (lookup_some hv)
    unfold csB at h1
    split at h1
    · rename_i u hu
      obtain ⟨w', r, rp⟩ := repB_ok v u h1
      exact ⟨u, w', PySem.W.mg_of KX G hu, r, rp _ rfl⟩
    · cases h1
  · simp only [tyNames, List.mem_cons, List.not_mem_nil, or_false] at hn
    rcases hn with rfl | rfl | rfl | rfl | rfl | rfl <;> exact fr _ (by decide +kernel)
  · cases b <;> exact fr _ (by decide +kernel)
  · have hm := List.mem_of_getElem? hq
    refine ⟨He.ga K q.1, He.glo_ok KX G (fact_cls c hm), by show (T.xs[i]?).map _ = _; rw [hq]; rfl, fun hn => ?_, fun g f hn => ?_⟩
    · obtain ⟨e1, e2, e3, e4⟩ := He.exc_ok (fact_exc c hm hn)
      exact ⟨⟨_, _, _, _, PySem.F.excBase_ValueError, e1⟩, e2, e3, e4⟩
    · have hm' : (q.1, some (g, f)) ∈ T.xs := by rw [← hn]; exact hm
      have e := ex.ini q.1 g f hm'
      unfold iniB at e
      simp only [Bool.and_eq_true] at e
      exact ⟨xfB_ok e.1.1.1.1.1.1.2, He.eqO_ok e.1.1.1.1.1.2⟩
  · obtain ⟨q, h1, rfl⟩ := xcv hi
    obtain ⟨q', h2, rfl⟩ := xcv hj
    exact exm_at ex.xm (by rw [List.getElem?_map, h1]; rfl) (by rw [List.getElem?_map, h2]; rfl)
  · obtain ⟨q, h1, _⟩ := xcv hi
    exact ⟨q, h1⟩
  · obtain ⟨r, hr, rfl⟩ := tk.row hd (.inr (by rw [hw]; simp))
    exact word_at KX G c hr (List.all_eq_true.mp hc r hr) (hb.mem r hr) hw
  · obtain ⟨r, hr, rfl⟩ := tk.row hd (.inl hn)
    have hrow := List.all_eq_true.mp hc r hr
    unfold rowC at hrow
    simp only [Bool.and_eq_true, decide_eq_true_eq] at hrow
    have gl := He.glo_ok KX G (fact_row c hr)
    rw [hrow.1.1.1.1] at gl
    refine ⟨_, gl, ?_⟩
    show gvOf T K g = _
    unfold gvOf
    rw [hd]
    exact if_neg hn
  · obtain ⟨d, h1, h2, _⟩ := gvOf_some e
    exact ⟨d, h1, h2⟩
  · obtain ⟨q, h1, h2⟩ := Option.map_eq_some_iff.mp e
    cases h2
    exact ⟨q, h1, rfl⟩
  · obtain ⟨q, h1, h2⟩ := Option.map_eq_some_iff.mp hi
    obtain ⟨q', h3, h4⟩ := Option.map_eq_some_iff.mp hj
    cases h2
    cases h4
    have e0 := ex.ic
    unfold clsB at e0
    rw [Bool.and_eq_true] at e0
    exact (kits_at e0.1 h1 h3).1
  · obtain ⟨q, h1, h2⟩ := Option.map_eq_some_iff.mp hi
    cases h2
    have e0 := ex.ic
    unfold clsB at e0
    rw [Bool.and_eq_true] at e0
    exact (kits_at e0.1 h1 h1).2 t ht
theorem def_at {base : Heap} (KX : K.In h) (G : h.Ns mainGlobals mg) (c : Says P T rs ms w h K) (TBs : ∀ p ∈ lmOf P rs, LamX.TabB base mg (He.cT K p).1 (He.cT K p).2) {r : Row} (hr : r ∈ rs) (hc : rowC P T r = true) (hb : BindOk (r.df P).params (r.d.N.take r.d.np) r.d.dfl.length) :
    DefAt (ctx P T rs w K mg base) T r.d := by
  unfold rowC at hc
  simp only [Bool.and_eq_true, decide_eq_true_eq] at hc
  obtain ⟨⟨⟨⟨h1, h2⟩, h3⟩, h4⟩, _⟩ := hc
  obtain ⟨fd, F⟩ := c.t.d.defs (d := r.dd P) (List.mem_append_left _ (List.mem_map.mpr ⟨r, hr, rfl⟩))
  have gl := He.glo_ok KX G (fact_row c hr)
  have ex := exIs c.more
  have dl := dvLB_ok (ex.dv r hr)
  have np := chkD_np h2
  have F' : FunD K (r.df P).name (r.df P).name (r.df P).params (r.df P).body (r.df P).scope (r.dv.map (He.Dv.v K)) [] (He.ga K (r.df P).name) fd := F
  have hlm : r.d.lm = true → LmAt (ctx P T rs w K mg base) fd.code ((r.df P).name ++ ".<locals>." ++ "<lambda>") := fun hl => by
    obtain ⟨oc, od, dV, kV, doc, pm, an, cdv, ct, osl, rfl, lk, hcd, _, _⟩ := F'.ex
    obtain ⟨cc, rfl⟩ := He.codeIn_ref hcd
    have hp : ((r.df P).name, none) ∈ lmOf P rs := List.mem_map.mpr ⟨r, List.mem_filter.mpr ⟨hr, hl⟩, rfl⟩
    have e1 : (He.cT K ((r.df P).name, none)).1 = cc := He.codeOf_eq (K := K) (p := ((r.df P).name, none)) lk rfl
    refine ⟨cc, (He.cT K ((r.df P).name, none)).2, rfl, by rw [← e1]; exact TBs _ hp, List.mem_map.mpr ⟨_, hp, rfl⟩, fun p hpm hpe => ?_⟩
    obtain ⟨q, hq, rfl⟩ := List.mem_map.mp hpm
    have e2 := ex.lm q hq _ hp hpe
    show lamQ q.1 = lamQ (r.df P).name
    rw [e2]
  refine ⟨He.ga K (r.df P).name, fd, (r.df P).name, (r.df P).params, (r.df P).body, (r.df P).scope, r.dv.map (He.Dv.v K), by rw [← h1]; exact gl, by rw [← h1]; exact F, C8.fnScope_by h3, h2, hlm, fun m hm1 hm2 => ?_⟩
  unfold BindOk at hb
  split at hb
  · rename_i q0
    have e0 : r.dv = [] := List.length_eq_zero_iff.mp (by omega)
    have e1 : r.d.dfl = [] := List.length_eq_zero_iff.mp (by omega)
    rw [e0] at F'
    refine ⟨[], [], by simp; omega, fun z H => by rw [e1]; simp; exact .nil, .nil, FunD.bindsN F' fun kV doc pm an cdv ct us hl => hb _ _ _ _ _ _ _ _ _ _ us hl⟩
  · rename_i q0
    have e0 : (r.dv.map (He.Dv.v K)).length = r.d.dfl.length := by rw [List.length_map]; exact h4
    obtain ⟨ds, v, b⟩ := FunD.binds1 (ps := r.d.N.take r.d.np) F' m (m + r.d.dfl.length - r.d.np) (fun e => by rw [e] at e0; simp at e0; omega) (by rw [e0, np]; omega) (fun T kV doc pm an cdv ct us its l1 l2 => by
      have := hb m (by omega) (by omega) (r.df P).name (r.df P).name (r.df P).body (r.df P).scope T kV doc pm an cdv ct us its l1 (by rw [l2, e0])
      rw [np] at this
      exact this)
    exact ⟨_, ds, by rw [List.length_drop, e0]; omega, fun z H => (dl (ctx P _ rs w K mg base) rfl z H).drop _, v, b⟩
theorem defs_all {base : Heap} (tk : TbOk T rs ms is) (KX : K.In h) (G : h.Ns mainGlobals mg) (c : Says P T rs ms w h K) (nt : NoThird base) (TBs : ∀ p ∈ lmOf P rs, LamX.TabB base mg (He.cT K p).1 (He.cT K p).2) (hc : rs.all (rowC P T) = true) (hb : AllBind P rs) (hm : ms.all (mC P T) = true) (hbm : AllBindM P ms) :
    ∀ k g d, T.tb g = some d → d.name ≠ "" → DefOk (ctx P T rs w K mg base) k (runF T.tb k) g d := by
  refine fun k => (defs_ok (C := ctx P T rs w K mg base) (fun g v e => by obtain ⟨d, _, _, e2⟩ := gvOf_some e; exact ⟨_, e2⟩) (fun k cl D PL LA => gok tk KX G c hc hb k cl D PL LA) rfl (fun g d hd hn => ?_) (fun i nm g f hq => ?_) (fun i q hq => cls_at tk KX G c hm hbm hq) k).1
  · obtain ⟨r, hr, rfl⟩ := tk.row hd (.inl hn)
    exact def_at KX G c TBs hr (List.all_eq_true.mp hc r hr) (hb.mem r hr)
  · have hm := List.mem_of_getElem? hq
    obtain ⟨d, hd, I⟩ := ini_is (base := base) KX G c nt hm
    exact ⟨He.ga K nm, d, He.glo_ok KX G (fact_cls c hm), by show (T.xs[i]?).map _ = _; rw [hq]; rfl, hd, I⟩
end
end Mp
namespace Mp
open PySem PySem.Spec PyProof.Rows L2 RZ
theorem script_rel {C : Ctx} {H : Hp} {a : Addr} {ns : List Int} (h : FrzL C.K H a (ns.map V.int)) (tb : LamX.Tabs C.ts H) : SRel C ⟨[], H, nl⟩ (fun _ => False) H [.pv (.frz (ns.map PV.int))] ([V.ref a].map some) := by
  have rp : ∀ ns : List Int, RepL C (fun _ => False) H (ns.map PV.int) (ns.map V.int) := fun ns => by
    induction ns with
    | nil => exact .nil
    | cons i r ih => exact .cons (.int i) ih
  refine ⟨rfl, fun a q => q.elim, fun a e => e, fun i x e => ?_, fun i t x e => ?_, fun i j t u x y a e => ?_, (fun q hq => by cases hq), tb, fun i hs e => ?_⟩
  · cases i with
    | zero => simp at e; subst e; exact ⟨.ref a, rfl, .frz h (rp ns)⟩
    | succ i => simp at e
  · cases i with
    | zero => simp at e
    | succ i => simp at e
  · cases i with
    | zero => simp at e
    | succ i => simp at e
  · cases i with
    | zero => simp at e
    | succ i => simp at e
theorem tabs0 {H : Hp} {T : List (Addr × Str)} (h : ∀ p ∈ T, H p.1 = some (.tbl #[])) : LamX.Tabs T H := fun p hp => ⟨#[], h p hp, by simp [TriplesOk], fun pos cv hc => by simp [codeAmong] at hc⟩
theorem law_walk {l : PySem.W.OpenLaw} {q : Program} {loose : List Str} {XP : (Str → Option Value) → Heap → Prop} {T : Tb} {rs ms : List Row} {is : List Fd} {gL k n : Nat} {rL : Row} (hn : l.most = some 63) (tk : TbOk T rs ms is) (hc : rs.all (rowC l.prog T) = true) (hb : AllBind l.prog rs) (hm : ms.all (mC l.prog T) = true) (hbm : AllBindM l.prog ms) (hL : rs[gL]? = some rL)
    (h1 : rL.d.np = 1) (h2 : rL.d.N.take 1 = [("script" : Str)]) (h3 : rL.d.dfl = []) (h0 : rL.d.name ≠ "") (hdf : (rL.df l.prog).params.defaults = []) (hr : Room (3 * k) callerA)
    (law : ∀ ns : List Int, ns.length ≤ 63 → (∀ k ∈ ns, Builtin.Int.intBits k ≤ 1048576) → ∃ s, runF T.tb k gL [.pv (.frz (ns.map PV.int))] = .ok (.val (.bl true)) s) :
    PySem.W.WalkO q loose XP (hookM n (facts l.prog T rs) (fnsOf l.prog T rs ms) (lmOf l.prog rs) (exB l.prog T rs)).says l.row.toRowW (rL.df l.prog) [] (fun f vs => PySem.call f vs) := by
  refine walk_end (x := "script") (k := k) hn (by decide) hdf hr fun w mg fa h Y G hmg => ?_
  obtain ⟨⟨K, KX, c⟩, nt⟩ := Y
  have hmem := List.mem_of_getElem? hL
  have hd : T.tb gL = some rL.d := by
    rw [tk.tb]
    unfold tbOf
    rw [List.getElem?_append_left (by rw [List.length_map]; exact (List.getElem?_eq_some_iff.mp hL).1), List.getElem?_map, hL]
    rfl
  have hrow := List.all_eq_true.mp hc rL hmem
  unfold rowC at hrow
  simp only [Bool.and_eq_true, decide_eq_true_eq] at hrow
  refine ⟨K, (lmOf l.prog rs).map (He.cT K), KX, fun p hp => ?_, fun p hp => ?_, fun p hp => ?_, fun base TBs kb => ?_⟩
  · obtain ⟨q, hq, rfl⟩ := List.mem_map.mp hp
    exact c.empty q hq
  · obtain ⟨q, hq, rfl⟩ := List.mem_map.mp hp
    exact c.out q hq
  · obtain ⟨q, hq, rfl⟩ := List.mem_map.mp hp
    exact PySem.W.codeHd_of_K KX (c.hd q hq)
  have nt' : NoThird base := by
    obtain ⟨o, e1, e2⟩ := nt
    have hdic : ∃ es n, o.data = .dict es n := by
      have e2' := e2
      unfold PySem.W.nsIn at e2'
      split at e2'
      · rename_i c0 d0 es n0 sl0 ho
        have ho' : some o = some _ := (show List.lookup cStatics [(cStatics, o)] = some o by rfl).symm.trans ho
        cases ho'
        exact ⟨es, n0, rfl⟩
      · cases e2'
    obtain ⟨es, n0, hdd⟩ := hdic
    exact ⟨o, kb _ _ e1 (fun us n z => by rw [hdd] at z; cases z) (fun z => by rw [hdd] at z; cases z), e2⟩
  have D := defs_all (base := base) (w := w) tk KX G c nt' (fun p hp => TBs _ (List.mem_map.mpr ⟨p, hp, rfl⟩)) hc hb hm hbm k gL rL.d hd h0
  obtain ⟨f, fd, e1, _, FG, _, e2⟩ := D.ex
  have gl := He.glo_ok KX G (fact_row c hmem)
  have e1' : mg rL.d.name = some (.ref f) := e1
  rw [← hrow.1.1.1.1, hmg] at e1'
  cases e1'
  rw [h1, h2] at FG
  refine ⟨ctx l.prog T rs w K mg base, spOf (ctx l.prog T rs w K mg base) (runF T.tb k) gL rL.d, fd, fun s u hin => ?_, rfl, rfl, rfl, rfl, rfl, FG, fun H a ns hlen hbits htab hz => ?_⟩
  · obtain ⟨dvs, ds, q1, _, q2, q3⟩ := e2 1 (by omega) (by omega)
    rw [h1] at q1
    have q4 : dvs = [] := List.length_eq_zero_iff.mp (by omega)
    subst q4
    cases q2
    rw [h1, h2] at q3
    exact q3 s [u] hin rfl
  · obtain ⟨s, e⟩ := law ns hlen hbits
    refine ⟨fun _ => False, _, by rw [h1]; rfl, by rw [h1]; rfl, script_rel hz (tabs0 fun p hp => ?_), ?_⟩
    · obtain ⟨q, hq, rfl⟩ := List.mem_map.mp hp
      exact htab _ (List.mem_map.mpr ⟨q, hq, rfl⟩)
    rw [e]
    intro v H' z' g rr
    cases rr with
    | val h => cases h; rfl
end Mp

/-! MpEv: reckoning with the interpreter. -/
namespace Mp
open PySem

@[simp] theorem bind_ok {α β : Type} (a : α) (s : Sg) (f : α → Sg → Rs β) : (Rs.ok a s).bind f = f a s := rfl
@[simp] theorem toSs_ok {α : Type} (a : α) (s : Sg) (f : α → Sg → Ss) : toSs (.ok a s) f = f a s := rfl
@[simp] theorem asB_okb (b : Bool) (s : Sg) : asB (.ok (.val (.bl b)) s) = .ok b s := rfl
theorem asB_okv (v : RV) (s : Sg) : asB (.ok v s) = (match deref s v with
  | some x => match truV x with
    | some b => .ok b s
    | none => .no
  | none => .no) := rfl
def Ss.seq (r : Ss) (f : Sg → Ss) : Ss := match r with
  | .nx s => f s
  | r => r
@[simp] theorem seq_nx (s : Sg) (f : Sg → Ss) : (Ss.nx s).seq f = f s := rfl
@[simp] theorem seq_rt (r : RV) (s : Sg) (f : Sg → Ss) : (Ss.rt r s).seq f = .rt r s := rfl
@[simp] theorem seq_ct (s : Sg) (f : Sg → Ss) : (Ss.ct s).seq f = .ct s := rfl
@[simp] theorem seq_bk (s : Sg) (f : Sg → Ss) : (Ss.bk s).seq f = .bk s := rfl
/-! what waits for a result -/
def kBin2 (op : Operator) (x : RV) (r : Rs (RV)) : Rs RV := r.bind fun y s => match deref s x, deref s y with
    | some u, some w => ret1 s (binV op u w)
    | _, _ => .no
@[simp] theorem kBin2_ok (op : Operator) (x : RV) (y : RV) (s : Sg) : kBin2 op x (.ok y s) = (match deref s x, deref s y with
    | some u, some w => ret1 s (binV op u w)
    | _, _ => .no) := rfl
def kBin1 (cl : Cl) (tb : Nat → Option Fd) (op : Operator) (b : CE) (r : Rs (RV)) : Rs RV := r.bind fun x s => kBin2 op x (evE cl tb b s)
@[simp] theorem kBin1_ok (cl : Cl) (tb : Nat → Option Fd) (op : Operator) (b : CE) (x : RV) (s : Sg) : kBin1 cl tb op b (.ok x s) = (kBin2 op x (evE cl tb b s)) := rfl
def kNeg  (r : Rs (RV)) : Rs RV := r.bind fun x s => match x.int? with
    | some i => .ok (.val (.int (-i))) s
    | none => .no
@[simp] theorem kNeg_ok  (x : RV) (s : Sg) : kNeg  (.ok x s) = (match x.int? with
    | some i => .ok (.val (.int (-i))) s
    | none => .no) := rfl
def kNot  (r : Rs (Bool)) : Rs RV := r.bind fun b s => .ok (.val (.bl !b)) s
@[simp] theorem kNot_ok  (b : Bool) (s : Sg) : kNot  (.ok b s) = (.ok (.val (.bl !b)) s) := rfl
def kTt  (r : Rs (Bool)) : Rs RV := r.bind fun b s => .ok (.val (.bl b)) s
@[simp] theorem kTt_ok  (b : Bool) (s : Sg) : kTt  (.ok b s) = (.ok (.val (.bl b)) s) := rfl
def kAnd (cl : Cl) (tb : Nat → Option Fd) (b : CE) (r : Rs (RV)) : Rs RV := r.bind fun x s => match x.bl? with
    | some true => evE cl tb b s
    | some false => .ok (.val (.bl false)) s
    | none => .no
@[simp] theorem kAnd_ok (cl : Cl) (tb : Nat → Option Fd) (b : CE) (x : RV) (s : Sg) : kAnd cl tb b (.ok x s) = (match x.bl? with
    | some true => evE cl tb b s
    | some false => .ok (.val (.bl false)) s
    | none => .no) := rfl
def kOr (cl : Cl) (tb : Nat → Option Fd) (b : CE) (r : Rs (RV)) : Rs RV := r.bind fun x s => match x.bl? with
    | some false => evE cl tb b s
    | some true => .ok (.val (.bl true)) s
    | none => .no
@[simp] theorem kOr_ok (cl : Cl) (tb : Nat → Option Fd) (b : CE) (x : RV) (s : Sg) : kOr cl tb b (.ok x s) = (match x.bl? with
    | some false => evE cl tb b s
    | some true => .ok (.val (.bl true)) s
    | none => .no) := rfl
def kAndT (cl : Cl) (tb : Nat → Option Fd) (b : CE) (r : Rs (Bool)) : Rs RV := r.bind fun c s => if c then kTt (asB (evE cl tb b s)) else .ok (.val (.bl false)) s
@[simp] theorem kAndT_ok (cl : Cl) (tb : Nat → Option Fd) (b : CE) (c : Bool) (s : Sg) : kAndT cl tb b (.ok c s) = (if c then kTt (asB (evE cl tb b s)) else .ok (.val (.bl false)) s) := rfl
def kOrT (cl : Cl) (tb : Nat → Option Fd) (b : CE) (r : Rs (Bool)) : Rs RV := r.bind fun c s => if c then .ok (.val (.bl true)) s else kTt (asB (evE cl tb b s))
@[simp] theorem kOrT_ok (cl : Cl) (tb : Nat → Option Fd) (b : CE) (c : Bool) (s : Sg) : kOrT cl tb b (.ok c s) = (if c then .ok (.val (.bl true)) s else kTt (asB (evE cl tb b s))) := rfl
def kCmp2 (op : CmpOp) (x : RV) (r : Rs (RV)) : Rs RV := r.bind fun y s => match deref s x, deref s y with
    | some u, some w => (match cmpV op u w with
      | some c => .ok (.val (.bl c)) s
      | none => .no)
    | _, _ => .no
@[simp] theorem kCmp2_ok (op : CmpOp) (x : RV) (y : RV) (s : Sg) : kCmp2 op x (.ok y s) = (match deref s x, deref s y with
    | some u, some w => (match cmpV op u w with
      | some c => .ok (.val (.bl c)) s
      | none => .no)
    | _, _ => .no) := rfl
def kCmp1 (cl : Cl) (tb : Nat → Option Fd) (op : CmpOp) (b : CE) (r : Rs (RV)) : Rs RV := r.bind fun x s => kCmp2 op x (evE cl tb b s)
@[simp] theorem kCmp1_ok (cl : Cl) (tb : Nat → Option Fd) (op : CmpOp) (b : CE) (x : RV) (s : Sg) : kCmp1 cl tb op b (.ok x s) = (kCmp2 op x (evE cl tb b s)) := rfl
def kChn3 (p : CmpOp) (w : PV) (r : Rs (RV)) : Rs RV := r.bind fun z s => match z.val? with
    | some u => (match cmpV p w u with
      | some d => .ok (.val (.bl d)) s
      | none => .no)
    | none => .no
@[simp] theorem kChn3_ok (p : CmpOp) (w : PV) (z : RV) (s : Sg) : kChn3 p w (.ok z s) = (match z.val? with
    | some u => (match cmpV p w u with
      | some d => .ok (.val (.bl d)) s
      | none => .no)
    | none => .no) := rfl
def kChn2 (cl : Cl) (tb : Nat → Option Fd) (o : CmpOp) (p : CmpOp) (c : CE) (x : RV) (r : Rs (RV)) : Rs RV := r.bind fun y s => match x.val?, y.val? with
    | some u, some w => (match cmpV o u w with
      | some true => kChn3 p w (evE cl tb c s)
      | some false => .ok (.val (.bl false)) s
      | none => .no)
    | _, _ => .no
@[simp] theorem kChn2_ok (cl : Cl) (tb : Nat → Option Fd) (o : CmpOp) (p : CmpOp) (c : CE) (x : RV) (y : RV) (s : Sg) : kChn2 cl tb o p c x (.ok y s) = (match x.val?, y.val? with
    | some u, some w => (match cmpV o u w with
      | some true => kChn3 p w (evE cl tb c s)
      | some false => .ok (.val (.bl false)) s
      | none => .no)
    | _, _ => .no) := rfl
def kChn1 (cl : Cl) (tb : Nat → Option Fd) (o : CmpOp) (p : CmpOp) (b : CE) (c : CE) (r : Rs (RV)) : Rs RV := r.bind fun x s => kChn2 cl tb o p c x (evE cl tb b s)
@[simp] theorem kChn1_ok (cl : Cl) (tb : Nat → Option Fd) (o : CmpOp) (p : CmpOp) (b : CE) (c : CE) (x : RV) (s : Sg) : kChn1 cl tb o p b c (.ok x s) = (kChn2 cl tb o p c x (evE cl tb b s)) := rfl
def kIf (cl : Cl) (tb : Nat → Option Fd) (a : CE) (b : CE) (r : Rs (Bool)) : Rs RV := r.bind fun c s => if c then evE cl tb a s else evE cl tb b s
@[simp] theorem kIf_ok (cl : Cl) (tb : Nat → Option Fd) (a : CE) (b : CE) (c : Bool) (s : Sg) : kIf cl tb a b (.ok c s) = (if c then evE cl tb a s else evE cl tb b s) := rfl
def kTup  (r : Rs (List RV)) : Rs RV := r.bind fun rs s => match valsOf rs with
    | some l => if l.length ≤ line then .ok (.val (.tup l)) s else .no
    | none => .no
@[simp] theorem kTup_ok  (rs : List RV) (s : Sg) : kTup  (.ok rs s) = (match valsOf rs with
    | some l => if l.length ≤ line then .ok (.val (.tup l)) s else .no
    | none => .no) := rfl
def kLst  (r : Rs (List RV)) : Rs RV := r.bind fun rs s => match valsOf rs with
    | some l => if l.length ≤ line then .ok (.frs (.lst l)) s else .no
    | none => .no
@[simp] theorem kLst_ok  (rs : List RV) (s : Sg) : kLst  (.ok rs s) = (match valsOf rs with
    | some l => if l.length ≤ line then .ok (.frs (.lst l)) s else .no
    | none => .no) := rfl
def kSub2 (x : RV) (r : Rs (RV)) : Rs RV := r.bind fun y s => match deref s x, deref s y with
    | some u, some w => (match subV u w with
      | some z => .ok (.val z) s
      | none => .no)
    | _, _ => .no
@[simp] theorem kSub2_ok (x : RV) (y : RV) (s : Sg) : kSub2 x (.ok y s) = (match deref s x, deref s y with
    | some u, some w => (match subV u w with
      | some z => .ok (.val z) s
      | none => .no)
    | _, _ => .no) := rfl
def kSub1 (cl : Cl) (tb : Nat → Option Fd) (b : CE) (r : Rs (RV)) : Rs RV := r.bind fun x s => kSub2 x (evE cl tb b s)
@[simp] theorem kSub1_ok (cl : Cl) (tb : Nat → Option Fd) (b : CE) (x : RV) (s : Sg) : kSub1 cl tb b (.ok x s) = (kSub2 x (evE cl tb b s)) := rfl
def kSl3 (x : RV) (l : Option Int) (r : Rs (Option Int)) : Rs RV := r.bind fun h s => match deref s x with
    | some u => ret1 s (slcV u l h)
    | none => .no
@[simp] theorem kSl3_ok (x : RV) (l : Option Int) (h : Option Int) (s : Sg) : kSl3 x l (.ok h s) = (match deref s x with
    | some u => ret1 s (slcV u l h)
    | none => .no) := rfl
def kSl2 (cl : Cl) (tb : Nat → Option Fd) (hi : Option CE) (x : RV) (r : Rs (Option Int)) : Rs RV := r.bind fun l s => kSl3 x l (evO cl tb hi s)
@[simp] theorem kSl2_ok (cl : Cl) (tb : Nat → Option Fd) (hi : Option CE) (x : RV) (l : Option Int) (s : Sg) : kSl2 cl tb hi x (.ok l s) = (kSl3 x l (evO cl tb hi s)) := rfl
def kSl1 (cl : Cl) (tb : Nat → Option Fd) (lo : Option CE) (hi : Option CE) (r : Rs (RV)) : Rs RV := r.bind fun x s => kSl2 cl tb hi x (evO cl tb lo s)
@[simp] theorem kSl1_ok (cl : Cl) (tb : Nat → Option Fd) (lo : Option CE) (hi : Option CE) (x : RV) (s : Sg) : kSl1 cl tb lo hi (.ok x s) = (kSl2 cl tb hi x (evO cl tb lo s)) := rfl
def kCal (cl : Cl) (tb : Nat → Option Fd) (g : Nat) (r : Rs (List RV)) : Rs RV := r.bind fun rs s => callG cl tb g rs s
@[simp] theorem kCal_ok (cl : Cl) (tb : Nat → Option Fd) (g : Nat) (rs : List RV) (s : Sg) : kCal cl tb g (.ok rs s) = (callG cl tb g rs s) := rfl
def kBui (b : Bi) (r : Rs (List RV)) : Rs RV := r.bind fun rs s => match derefs s rs with
    | some l => ret1 s (biV b l)
    | none => .no
@[simp] theorem kBui_ok (b : Bi) (rs : List RV) (s : Sg) : kBui b (.ok rs s) = (match derefs s rs with
    | some l => ret1 s (biV b l)
    | none => .no) := rfl
def kRev  (r : Rs (RV)) : Rs RV := r.bind fun x s => match deref s x with
    | some (.lst l) => .ok (.frs (.lst l.reverse)) s
    | _ => .no
@[simp] theorem kRev_ok  (x : RV) (s : Sg) : kRev  (.ok x s) = (match deref s x with
    | some (.lst l) => .ok (.frs (.lst l.reverse)) s
    | _ => .no) := rfl
def kLc (cl : Cl) (tb : Nat → Option Fd) (own : List Nat) (tg : Tg) (k : IK) (ifs : List CE) (e : CE) (r : Rs (List RV)) : Rs RV := r.bind fun rs s => match valsOf rs with
    | some l => (match itV k l with
      | some xs => (lcGo own tg (evT cl tb ifs) (evE cl tb e) xs 0 [] s).bind fun ys s2 => .ok (.frs (.lst ys)) s2
      | none => .no)
    | none => .no
@[simp] theorem kLc_ok (cl : Cl) (tb : Nat → Option Fd) (own : List Nat) (tg : Tg) (k : IK) (ifs : List CE) (e : CE) (rs : List RV) (s : Sg) : kLc cl tb own tg k ifs e (.ok rs s) = (match valsOf rs with
    | some l => (match itV k l with
      | some xs => (lcGo own tg (evT cl tb ifs) (evE cl tb e) xs 0 [] s).bind fun ys s2 => .ok (.frs (.lst ys)) s2
      | none => .no)
    | none => .no) := rfl
def kEs2 (w : RV) (r : Rs (List RV)) : Rs (List RV) := r.bind fun rs s => .ok (w :: rs) s
@[simp] theorem kEs2_ok (w : RV) (rs : List RV) (s : Sg) : kEs2 w (.ok rs s) = (.ok (w :: rs) s) := rfl
def kEs1 (cl : Cl) (tb : Nat → Option Fd) (es : List CE) (r : Rs (RV)) : Rs (List RV) := r.bind fun w s => kEs2 w (evEs cl tb es s)
@[simp] theorem kEs1_ok (cl : Cl) (tb : Nat → Option Fd) (es : List CE) (w : RV) (s : Sg) : kEs1 cl tb es (.ok w s) = (kEs2 w (evEs cl tb es s)) := rfl
def kO  (r : Rs (RV)) : Rs (Option Int) := r.bind fun x s => match x.int? with
    | some i => .ok (some i) s
    | none => .no
@[simp] theorem kO_ok  (x : RV) (s : Sg) : kO  (.ok x s) = (match x.int? with
    | some i => .ok (some i) s
    | none => .no) := rfl
def kAsg (t : Tg) (r : Rs (RV)) : Ss := toSs r fun x s => match t.asg x s with
    | some s2 => .nx s2
    | none => .no
@[simp] theorem kAsg_ok (t : Tg) (x : RV) (s : Sg) : kAsg t (.ok x s) = (match t.asg x s with
    | some s2 => .nx s2
    | none => .no) := rfl
def kPar (is : List Nat) (r : Rs (List RV)) : Ss := toSs r fun rs s => match setAll is rs s with
    | some s2 => .nx s2
    | none => .no
@[simp] theorem kPar_ok (is : List Nat) (rs : List RV) (s : Sg) : kPar is (.ok rs s) = (match setAll is rs s with
    | some s2 => .nx s2
    | none => .no) := rfl
def kExp  (r : Rs (RV)) : Ss := toSs r fun _x s => .nx s
@[simp] theorem kExp_ok  (_x : RV) (s : Sg) : kExp  (.ok _x s) = (.nx s) := rfl
def kRet  (r : Rs (RV)) : Ss := toSs r fun x s => match retV s x with
    | some (y, s2) => .rt y s2
    | none => .no
@[simp] theorem kRet_ok  (x : RV) (s : Sg) : kRet  (.ok x s) = (match retV s x with
    | some (y, s2) => .rt y s2
    | none => .no) := rfl
def kIte (cl : Cl) (tb : Nat → Option Fd) (a : List CS) (b : List CS) (r : Rs (Bool)) : Ss := toSs r fun c s => if c then exSs cl tb a s else exSs cl tb b s
@[simp] theorem kIte_ok (cl : Cl) (tb : Nat → Option Fd) (a : List CS) (b : List CS) (c : Bool) (s : Sg) : kIte cl tb a b (.ok c s) = (if c then exSs cl tb a s else exSs cl tb b s) := rfl
def kSet2 (i : Nat) (x : RV) (r : Rs (RV)) : Ss := toSs r fun y s => match valOf x, y.int?, ownL s i with
      | some w, some k, some (t, l) => (match ixP l.length k with
        | some m => .nx (s.set i (.own t (.lst (l.set m w))))
        | none => .no)
      | _, _, _ => .no
@[simp] theorem kSet2_ok (i : Nat) (x : RV) (y : RV) (s : Sg) : kSet2 i x (.ok y s) = (match valOf x, y.int?, ownL s i with
      | some w, some k, some (t, l) => (match ixP l.length k with
        | some m => .nx (s.set i (.own t (.lst (l.set m w))))
        | none => .no)
      | _, _, _ => .no) := rfl
def kSet1 (cl : Cl) (tb : Nat → Option Fd) (i : Nat) (ix : CE) (r : Rs (RV)) : Ss := toSs r fun x s => match isOwnL s i with
    | true => kSet2 i x (evE cl tb ix s)
    | false => .no
@[simp] theorem kSet1_ok (cl : Cl) (tb : Nat → Option Fd) (i : Nat) (ix : CE) (x : RV) (s : Sg) : kSet1 cl tb i ix (.ok x s) = (match isOwnL s i with
    | true => kSet2 i x (evE cl tb ix s)
    | false => .no) := rfl
def kAug (i : Nat) (m : Int) (op : Operator) (r : Rs (RV)) : Ss := toSs r fun x s => match x.int? with
      | some k => (match op with
        | .Add => .nx (s.set i (.pv (.int (m + k))))
        | .Sub => .nx (s.set i (.pv (.int (m - k))))
        | _ => .no)
      | none => .no
@[simp] theorem kAug_ok (i : Nat) (m : Int) (op : Operator) (x : RV) (s : Sg) : kAug i m op (.ok x s) = (match x.int? with
      | some k => (match op with
        | .Add => .nx (s.set i (.pv (.int (m + k))))
        | .Sub => .nx (s.set i (.pv (.int (m - k))))
        | _ => .no)
      | none => .no) := rfl
def kApp (i : Nat) (r : Rs (RV)) : Ss := toSs r fun x s => match valOf x, ownL s i with
      | some w, some (t, l) => if l.length < line then .nx (s.set i (.own t (.lst (l ++ [w])))) else .no
      | _, _ => .no
@[simp] theorem kApp_ok (i : Nat) (x : RV) (s : Sg) : kApp i (.ok x s) = (match valOf x, ownL s i with
      | some w, some (t, l) => if l.length < line then .nx (s.set i (.own t (.lst (l ++ [w])))) else .no
      | _, _ => .no) := rfl
def kFro (cl : Cl) (tb : Nat → Option Fd) (tg : Tg) (k : IK) (b : List CS) (r : Rs (List RV)) : Ss := toSs r fun rs s => match valsOf rs with
    | some l => (match itV k l with
      | some xs => frGo tg (exSs cl tb b) xs s
      | none => .no)
    | none => .no
@[simp] theorem kFro_ok (cl : Cl) (tb : Nat → Option Fd) (tg : Tg) (k : IK) (b : List CS) (rs : List RV) (s : Sg) : kFro cl tb tg k b (.ok rs s) = (match valsOf rs with
    | some l => (match itV k l with
      | some xs => frGo tg (exSs cl tb b) xs s
      | none => .no)
    | none => .no) := rfl
section
variable (cl : Cl) (tb : Nat → Option Fd) (s : Sg)
@[simp] theorem x_nil : exSs cl tb [] s = .nx s := rfl
@[simp] theorem x_cons (c : CS) (cs : List CS) : exSs cl tb (c :: cs) s = (exS cl tb c s).seq (exSs cl tb cs) := by
  show (match exS cl tb c s with
    | .nx s1 => exSs cl tb cs s1
    | r => r) = _
  cases exS cl tb c s <;> rfl
theorem x_append (l1 l2 : List CS) (s : Sg) : exSs cl tb (l1 ++ l2) s = (exSs cl tb l1 s).seq (exSs cl tb l2) := by
  induction l1 generalizing s with
  | nil => rfl
  | cons c cs ih =>
    rw [List.cons_append, x_cons, x_cons]
    cases e : exS cl tb c s with
    | nx s1 => exact ih s1
    | _ => rfl
@[simp] theorem x_asg (t : Tg) (e : CE) : exS cl tb (.asg t e) s = kAsg t (evE cl tb e s) := rfl
@[simp] theorem x_par (is : List Nat) (es : List CE) : exS cl tb (.par is es) s = kPar is (evEs cl tb es s) := rfl
@[simp] theorem x_exp (e : CE) : exS cl tb (.exp e) s = kExp (evE cl tb e s) := rfl
@[simp] theorem x_ret (e : CE) : exS cl tb (.ret e) s = kRet (evE cl tb e s) := rfl
@[simp] theorem x_retN : exS cl tb .retN s = .rt (.val .non) s := rfl
@[simp] theorem x_ite (t : CE) (a b : List CS) : exS cl tb (.ite t a b) s = kIte cl tb a b (asB (evE cl tb t s)) := rfl
@[simp] theorem x_brk : exS cl tb .brk s = .bk s := rfl
@[simp] theorem x_cnt : exS cl tb .cnt s = .ct s := rfl
@[simp] theorem x_pas : exS cl tb .pas s = .nx s := rfl
@[simp] theorem x_set (i : Nat) (ix e : CE) : exS cl tb (.set i ix e) s = kSet1 cl tb i ix (evE cl tb e s) := rfl
@[simp] theorem x_aug (i : Nat) (op : Operator) (e : CE) : exS cl tb (.aug i op e) s = (match s[i]? with
    | some (.pv (.int m)) => kAug i m op (evE cl tb e s)
    | _ => .no) := rfl
@[simp] theorem x_app (i : Nat) (e : CE) : exS cl tb (.app i e) s = (match isOwnL s i with
    | true => kApp i (evE cl tb e s)
    | false => .no) := rfl
theorem x_fro (tg : Tg) (k : IK) (src : List CE) (b : List CS) : exS cl tb (.fro tg k src b) s = kFro cl tb tg k b (evEs cl tb src s) := rfl
theorem x_fro' {tg : Tg} {k : IK} {src : List CE} {b : List CS} {rs : List RV} {l xs : List PV} {s1 : Sg} (h1 : evEs cl tb src s = .ok rs s1) (h2 : valsOf rs = some l) (h3 : itV k l = some xs) : exS cl tb (.fro tg k src b) s = frGo tg (exSs cl tb b) xs s1 := by
  rw [x_fro, h1, kFro_ok, h2]
  dsimp only
  rw [h3]
theorem x_whl (t : CE) (b : List CS) : exS cl tb (.whl t b) s = whGo (fun s => asB (evE cl tb t s)) (exSs cl tb b) fuel s := rfl
@[simp] theorem v_var (i : Nat) : evE cl tb (.var i) s = (match s[i]? with
    | some (.pv x) => .ok (.val x) s
    | some (.own _ x) => if x.mut then .no else .ok (.val x) (s.set i (.pv x))
    | _ => .no) := rfl
@[simp] theorem v_bor (i : Nat) : evE cl tb (.bor i) s = (match s[i]? with
    | some (.pv x) => .ok (.val x) s
    | some (.own _ _) => .ok (.bor i) s
    | _ => .no) := rfl
@[simp] theorem v_csti (i : Int) : evE cl tb (.cst (.int i)) s = .ok (.val (.int i)) s := rfl
@[simp] theorem v_csts (i : Str) : evE cl tb (.cst (.str i)) s = .ok (.val (.str i)) s := rfl
@[simp] theorem v_cstb (i : Bool) : evE cl tb (.cst (.bl i)) s = .ok (.val (.bl i)) s := rfl
@[simp] theorem v_cstn : evE cl tb (.cst .non) s = .ok (.val .non) s := rfl
@[simp] theorem v_cstt (n : String) : evE cl tb (.cst (.ty n)) s = .ok (.val (.ty n)) s := rfl
theorem v_cst (v : PV) (h : v.nod = true) : evE cl tb (.cst v) s = .ok (.val v) s := by
  show (if !v.nod && isAbs tb then Rs.no else Rs.ok (RV.val v) s) = _
  rw [h]
  rfl
@[simp] theorem v_bin (op : Operator) (a b : CE) : evE cl tb (.bin op a b) s = kBin1 cl tb op b (evE cl tb a s) := rfl
@[simp] theorem v_neg (a : CE) : evE cl tb (.neg a) s = kNeg (evE cl tb a s) := rfl
@[simp] theorem v_not (a : CE) : evE cl tb (.not a) s = kNot (asB (evE cl tb a s)) := rfl
@[simp] theorem v_and (a b : CE) : evE cl tb (.and a b) s = kAnd cl tb b (evE cl tb a s) := rfl
@[simp] theorem v_or (a b : CE) : evE cl tb (.or a b) s = kOr cl tb b (evE cl tb a s) := rfl
@[simp] theorem v_andT (a b : CE) : evE cl tb (.andT a b) s = kAndT cl tb b (asB (evE cl tb a s)) := rfl
@[simp] theorem v_orT (a b : CE) : evE cl tb (.orT a b) s = kOrT cl tb b (asB (evE cl tb a s)) := rfl
@[simp] theorem v_notT (a : CE) : evE cl tb (.notT a) s = kNot (asB (evE cl tb a s)) := rfl
@[simp] theorem v_tru (a : CE) : evE cl tb (.tru a) s = evE cl tb a s := rfl
@[simp] theorem v_cmp (op : CmpOp) (a b : CE) : evE cl tb (.cmp op a b) s = kCmp1 cl tb op b (evE cl tb a s) := rfl
@[simp] theorem v_chn (o p : CmpOp) (a b c : CE) : evE cl tb (.chn o p a b c) s = kChn1 cl tb o p b c (evE cl tb a s) := rfl
@[simp] theorem v_ife (t a b : CE) : evE cl tb (.ife t a b) s = kIf cl tb a b (asB (evE cl tb t s)) := rfl
@[simp] theorem v_tup (es : List CE) : evE cl tb (.tup es) s = kTup (evEs cl tb es s) := rfl
@[simp] theorem v_lst (es : List CE) : evE cl tb (.lst es) s = kLst (evEs cl tb es s) := rfl
@[simp] theorem v_sub (a b : CE) : evE cl tb (.sub a b) s = kSub1 cl tb b (evE cl tb a s) := rfl
@[simp] theorem v_slc (a : CE) (lo hi : Option CE) : evE cl tb (.slc a lo hi) s = kSl1 cl tb lo hi (evE cl tb a s) := rfl
@[simp] theorem v_cal (g : Nat) (es : List CE) : evE cl tb (.cal g es) s = kCal cl tb g (evEs cl tb es s) := rfl
@[simp] theorem v_bui (b : Bi) (es : List CE) : evE cl tb (.bui b es) s = kBui b (evEs cl tb es s) := rfl
@[simp] theorem v_rev (a : CE) : evE cl tb (.rev a) s = kRev (evE cl tb a s) := rfl
theorem v_lc (own : List Nat) (tg : Tg) (k : IK) (src ifs : List CE) (e : CE) : evE cl tb (.lc own tg k src ifs e) s = kLc cl tb own tg k ifs e (evEs cl tb src s) := rfl
@[simp] theorem vs_nil : evEs cl tb [] s = .ok [] s := rfl
@[simp] theorem vs_cons (e : CE) (es : List CE) : evEs cl tb (e :: es) s = kEs1 cl tb es (evE cl tb e s) := rfl
theorem v_lc' {own : List Nat} {tg : Tg} {k : IK} {src ifs : List CE} {e : CE} {rs : List RV} {l xs : List PV} {s1 : Sg} (h1 : evEs cl tb src s = .ok rs s1) (h2 : valsOf rs = some l) (h3 : itV k l = some xs) :
    evE cl tb (.lc own tg k src ifs e) s = (lcGo own tg (evT cl tb ifs) (evE cl tb e) xs 0 [] s1).bind fun ys s2 => .ok (.frs (.lst ys)) s2 := by
  rw [v_lc, h1, kLc_ok, h2]
  dsimp only
  rw [h3]
@[simp] theorem vo_none : evO cl tb none s = .ok none s := rfl
@[simp] theorem vo_some (e : CE) : evO cl tb (some e) s = kO (evE cl tb e s) := rfl
@[simp] theorem vt_nil : evT cl tb [] s = .ok true s := rfl
end
section
variable (s : Sg) (x : PV) (i : Nat)
@[simp] theorem deref_val : deref s (.val x) = some x := rfl
@[simp] theorem deref_frs : deref s (.frs x) = some x := rfl
@[simp] theorem deref_bor : deref s (.bor i) = (match s[i]? with
    | some (.pv x) => some x
    | some (.own _ x) => some x
    | _ => none) := rfl
@[simp] theorem derefs_nil : derefs s [] = some [] := rfl
@[simp] theorem derefs_cons (r : RV) (rs : List RV) : derefs s (r :: rs) = (match deref s r, derefs s rs with
    | some x, some xs => some (x :: xs)
    | _, _ => none) := rfl
@[simp] theorem valOf_val : valOf (.val x) = some x := rfl
@[simp] theorem valOf_lst (l : List PV) : valOf (.frs (.lst l)) = some (.lst l) := rfl
@[simp] theorem mut_lst (l : List PV) : (PV.lst l).mut = false := rfl
@[simp] theorem mut_int (i : Int) : (PV.int i).mut = false := rfl
@[simp] theorem valsOf_nil : valsOf [] = some [] := rfl
@[simp] theorem valsOf_cons (r : RV) (rs : List RV) : valsOf (r :: rs) = (match valOf r, valsOf rs with
    | some x, some xs => some (x :: xs)
    | _, _ => none) := rfl
@[simp] theorem ret1_some (r : RV) : ret1 s (some r) = .ok r s := rfl
@[simp] theorem rv_int (k : Int) : RV.int? (.val (.int k)) = some k := rfl
@[simp] theorem rv_bl (b : Bool) : RV.bl? (.val (.bl b)) = some b := rfl
@[simp] theorem rv_val : RV.val? (.val x) = some x := rfl
@[simp] theorem callG_eq (cl : Cl) (tb : Nat → Option Fd) (g : Nat) (rs : List RV) : callG cl tb g rs s = (match tb g with
  | none => .no
  | some d => if rs.length ≤ d.np ∧ d.np ≤ rs.length + d.dfl.length ∧ (bors rs).Nodup then
      match argSlots s d.mp 0 rs with
      | none => .no
      | some as => match cl g (as ++ (d.dfl.drop (rs.length + d.dfl.length - d.np)).map Slot.pv) with
        | .ok r as' => if isBor r then .no else .ok r (giveBack rs as' s)
        | .er x as' => .er x (giveBack rs as' s)
        | .no => .no
    else .no) := rfl
@[simp] theorem arg_nil (mp : List Nat) (k : Nat) : argSlots s mp k [] = some [] := rfl
@[simp] theorem arg_val (mp : List Nat) (k : Nat) (rs : List RV) : argSlots s mp k (.val x :: rs) = (match argSlots s mp (k + 1) rs with
    | none => none
    | some l => some (.pv x :: l)) := rfl
@[simp] theorem arg_frs (mp : List Nat) (k : Nat) (rs : List RV) : argSlots s mp k (.frs x :: rs) = (match argSlots s mp (k + 1) rs with
    | none => none
    | some l => some (.own false x :: l)) := rfl
@[simp] theorem arg_bor (mp : List Nat) (k : Nat) (rs : List RV) : argSlots s mp k (.bor i :: rs) = (match argSlots s mp (k + 1) rs with
    | none => none
    | some l => if mp.contains k then (match s[i]? with
        | some (.own _ x) => some (.own false x :: l)
        | _ => none) else none) := rfl
@[simp] theorem bors_nil : bors [] = [] := rfl
@[simp] theorem bors_val (rs : List RV) : bors (.val x :: rs) = bors rs := rfl
@[simp] theorem bors_frs (rs : List RV) : bors (.frs x :: rs) = bors rs := rfl
@[simp] theorem bors_bor (rs : List RV) : bors (.bor i :: rs) = i :: bors rs := rfl
@[simp] theorem gb_nil (as : Sg) : giveBack [] as s = s := by unfold giveBack; rfl
@[simp] theorem gb_val (rs : List RV) (a : Slot) (as : Sg) : giveBack (.val x :: rs) (a :: as) s = giveBack rs as s := rfl
@[simp] theorem gb_frs (rs : List RV) (a : Slot) (as : Sg) : giveBack (.frs x :: rs) (a :: as) s = giveBack rs as s := rfl
@[simp] theorem gb_bor1 (rs : List RV) (a : Slot) (as : Sg) : giveBack (.bor i :: rs) (a :: as) s = giveBack rs as (s.set i a) := rfl
@[simp] theorem isBor_val : isBor (.val x) = false := rfl
@[simp] theorem isBor_frs : isBor (.frs x) = false := rfl
@[simp] theorem setAll_nil : setAll [] [] s = some s := rfl
@[simp] theorem setAll_cons (is : List Nat) (r : RV) (rs : List RV) : setAll (i :: is) (r :: rs) s = (match Tg.asg (.nm i) r s with
    | some s1 => setAll is rs s1
    | none => none) := rfl
@[simp] theorem asg_frs : Tg.asg (.nm i) (.frs x) s = if i < s.length then some (s.set i (.own true x)) else none := rfl
@[simp] theorem asg_val : Tg.asg (.nm i) (.val x) s = if i < s.length then some (s.set i (.pv x)) else none := rfl
@[simp] theorem asg_tp (ts : List Tg) (xs : List PV) : Tg.asg (.tp ts) (.val (.tup xs)) s = Tg.storeL ts xs s := rfl
@[simp] theorem sto_nm : Tg.store (.nm i) x s = if i < s.length then some (s.set i (.pv x)) else none := rfl
@[simp] theorem sto_tp (ts : List Tg) (xs : List PV) : Tg.store (.tp ts) (.tup xs) s = Tg.storeL ts xs s := rfl
@[simp] theorem stl_nil : Tg.storeL [] [] s = some s := rfl
@[simp] theorem stl_cons (t : Tg) (ts : List Tg) (xs : List PV) : Tg.storeL (t :: ts) (x :: xs) s = (match t.store x s with
    | some s1 => Tg.storeL ts xs s1
    | none => none) := rfl
@[simp] theorem retV_val : retV s (.val x) = some (.val x, s) := rfl
@[simp] theorem retV_frs : retV s (.frs x) = some (.frs x, s) := rfl
@[simp] theorem retV_bor : retV s (.bor i) = (match s[i]? with
    | some (.own true x) => some (.frs x, s.set i .un)
    | _ => none) := rfl
@[simp] theorem outs_nil (mp : List Nat) (k : Nat) : outs mp s k [] = [] := rfl
@[simp] theorem outs_pv (mp : List Nat) (k : Nat) (as : Sg) : outs mp s k (.pv x :: as) = .pv x :: outs mp s (k + 1) as := rfl
@[simp] theorem outs_own (mp : List Nat) (k : Nat) (b : Bool) (as : Sg) : outs mp s k (.own b x :: as) = (if mp.contains k then noLam ((s[k]?).getD .un) else .un) :: outs mp s (k + 1) as := rfl
@[simp] theorem noLam_pv (x : PV) : noLam (.pv x) = .pv x := rfl
@[simp] theorem noLam_own (t : Bool) (x : PV) : noLam (.own t x) = .own t x := rfl
@[simp] theorem noLam_un : noLam .un = .un := rfl
@[simp] theorem outs_un (mp : List Nat) (k : Nat) (as : Sg) : outs mp s k (.un :: as) = .un :: outs mp s (k + 1) as := rfl
@[simp] theorem isOwnL_eq : isOwnL s i = (match s[i]? with
  | some (.own _ (.lst _)) => true
  | _ => false) := rfl
@[simp] theorem ownL_eq : ownL s i = (match s[i]? with
  | some (.own t (.lst l)) => some (t, l)
  | _ => none) := rfl
@[simp] theorem isN_non : PV.isN .non = true := rfl
@[simp] theorem isN_int (k : Int) : PV.isN (.int k) = false := rfl
@[simp] theorem isN_tup (l : List PV) : PV.isN (.tup l) = false := rfl
@[simp] theorem bools_nil : bools [] = some [] := rfl
@[simp] theorem bools_cons (b : Bool) (r : List PV) : bools (.bl b :: r) = (match bools r with
    | some l => some (b :: l)
    | none => none) := rfl
@[simp] theorem ixP_eq1 (n : Nat) (k : Int) : ixP n k = if 0 ≤ k then (if k < n then some k.toNat else none) else if -(n : Int) ≤ k then some (k + n).toNat else none := rfl
@[simp] theorem atP_eq {α : Type} (xs : List α) (k : Int) : atP xs k = (match ixP xs.length k with
  | some j => xs[j]?
  | none => none) := rfl
end
section
variable (l k : List PV) (s : Str) (i j : Int) (b : Bool) (x y : PV) (n : String)
@[simp] theorem bi_len1 : biV .len [.tup l] = some (.val (.int l.length)) := rfl
@[simp] theorem bi_len2 : biV .len [.lst l] = some (.val (.int l.length)) := rfl
@[simp] theorem bi_len3 : biV .len [.frz l] = some (.val (.int l.length)) := rfl
@[simp] theorem bi_len4 : biV .len [.str s] = if s.length ≤ line then some (.val (.int s.length)) else none := rfl
@[simp] theorem bi_abs : biV .abs [.int i] = some (.val (.int (if i < 0 then -i else i))) := rfl
@[simp] theorem bi_int1 : biV .int [.int i] = some (.val (.int i)) := rfl
@[simp] theorem bi_int2 : biV .int [.bl b] = some (.val (.int (if b then 1 else 0))) := rfl
@[simp] theorem bi_max : biV .max [.int i, .int j] = some (.val (.int (if j > i then j else i))) := rfl
@[simp] theorem bi_min : biV .min [.int i, .int j] = some (.val (.int (if j < i then j else i))) := rfl
@[simp] theorem bi_tup1 : biV .tuple [.tup l] = some (.val (.tup l)) := rfl
@[simp] theorem bi_tup2 : biV .tuple [.lst l] = some (.val (.tup l)) := rfl
@[simp] theorem bi_lst1 : biV .list [.tup l] = some (.frs (.lst l)) := rfl
@[simp] theorem bi_lst2 : biV .list [.lst l] = some (.frs (.lst l)) := rfl
@[simp] theorem bi_all : biV .all [.lst l] = (match bools l with
    | some bs => some (.val (.bl (bs.all id)))
    | none => none) := rfl
@[simp] theorem bi_any : biV .any [.lst l] = (match bools l with
    | some bs => some (.val (.bl (bs.any id)))
    | none => none) := rfl
@[simp] theorem bi_isi : biV .isi [x, .ty n] = (match isiV x n with
    | some b => some (.val (.bl b))
    | none => none) := rfl
@[simp] theorem bin_int (op : Operator) : binV op (.int i) (.int j) = (binI op i j).map fun k => .val (.int k) := by cases op <;> rfl
@[simp] theorem bin_str (a b : Str) : binV .Add (.str a) (.str b) = if a.length + b.length ≤ line then some (.val (.str (a ++ b))) else none := rfl
@[simp] theorem bin_tup : binV .Add (.tup l) (.tup k) = if l.length + k.length ≤ line then some (.val (.tup (l ++ k))) else none := rfl
@[simp] theorem bin_lst : binV .Add (.lst l) (.lst k) = if l.length + k.length ≤ line then some (.frs (.lst (l ++ k))) else none := rfl
@[simp] theorem sub_tup : subV (.tup l) (.int i) = atP l i := rfl
@[simp] theorem sub_lst : subV (.lst l) (.int i) = atP l i := rfl
@[simp] theorem sub_frz : subV (.frz l) (.int i) = atP l i := rfl
@[simp] theorem cmp_lt : cmpV .Lt (.int i) (.int j) = some (decide (i < j)) := rfl
@[simp] theorem cmp_le : cmpV .LtE (.int i) (.int j) = some (decide (i ≤ j)) := rfl
@[simp] theorem cmp_gt : cmpV .Gt (.int i) (.int j) = some (decide (j < i)) := rfl
@[simp] theorem cmp_ge : cmpV .GtE (.int i) (.int j) = some (decide (j ≤ i)) := rfl
@[simp] theorem cmp_eqi : cmpV .Eq (.int i) (.int j) = some (decide (i = j)) := by
  show (if (PV.int i).dat 20 && (PV.int j).dat 20 then some ((PV.int i).eqv (.int j)) else none) = _
  simp [PV.dat, PV.isd, PV.dep, PV.eqv]
@[simp] theorem cmp_nei : cmpV .NotEq (.int i) (.int j) = some (!decide (i = j)) := by
  show (if (PV.int i).dat 20 && (PV.int j).dat 20 then some (!(PV.int i).eqv (.int j)) else none) = _
  simp [PV.dat, PV.isd, PV.dep, PV.eqv]
@[simp] theorem cmp_eqs (t : Str) : cmpV .Eq (.str s) (.str t) = some (decide (s = t)) := rfl
@[simp] theorem cmp_nes (t : Str) : cmpV .NotEq (.str s) (.str t) = some (!decide (s = t)) := rfl
@[simp] theorem cmp_is : cmpV .Is x .non = isNo x := rfl
@[simp] theorem cmp_isn : cmpV .IsNot x .non = (isNo x).map (!·) := rfl
@[simp] theorem it_tup : itV .val [.tup l] = some l := rfl
@[simp] theorem it_lst : itV .val [.lst l] = some l := rfl
theorem it_rng : itV .rng [.int j] = if -(2 ^ 62) ≤ j ∧ j < 2 ^ 62 then some ((List.range j.toNat).map fun (i : Nat) => PV.int (0 + i)) else none := rfl
theorem it_rng2 : itV .rng2 [.int i, .int j] = if -(2 ^ 62) ≤ i ∧ i < 2 ^ 62 ∧ -(2 ^ 62) ≤ j ∧ j < 2 ^ 62 then some ((List.range (j - i).toNat).map fun (k : Nat) => PV.int (i + k)) else none := rfl
@[simp] theorem isi_int : isiV (.int i) "int" = some true := rfl
@[simp] theorem isi_intb : isiV (.int i) "bool" = some false := rfl
@[simp] theorem isi_intt : isiV (.int i) "tuple" = some false := rfl
@[simp] theorem isi_tup : isiV (.tup l) "tuple" = some true := rfl
@[simp] theorem isi_str : isiV (.str s) "str" = some true := rfl
end
theorem it_rngN (n : Nat) (h : n ≤ 1000000) : itV .rng [.int (n : Int)] = some ((List.range n).map fun (i : Nat) => PV.int i) := by
  rw [it_rng, if_pos ⟨by omega, by omega⟩, Int.toNat_natCast]
  congr 1
  exact List.map_congr_left fun i _ => by rw [Int.zero_add]
/-- simple data -/
@[simp] theorem dat_int (n : Nat) (i : Int) : (PV.int i).dat n = true := by simp [PV.dat, PV.isd, PV.dep]
@[simp] theorem siz_line (n : Nat) (h : n ≤ 16777216) : n ≤ line := h
/-- one call, a level deeper -/
theorem run1 {tb : Nat → Option Fd} {n g : Nat} {as : Sg} {d : Fd} (h : tb g = some d) (hl : as.length = d.np) : runF tb (n + 1) g as = (match exSs (runF tb n) tb d.body (as ++ List.replicate (d.N.length - d.np) .un) with
    | .nx s => .ok (.val .non) (outs d.mp s 0 as)
    | .rt r s => if isBor r then .no else .ok r (outs d.mp s 0 as)
    | .er x s => .er x (outs d.mp s 0 as)
    | _ => .no) := by
  rw [runF, h]
  exact if_pos hl
/-- a loop by an invariant -/
theorem wh_rule {t : Sg → Rs Bool} {b : Sg → Ss} (I : Nat → Sg → Prop) (post : Sg → Prop)
    (h : ∀ m s, I m s → (∃ s1, t s = .ok false s1 ∧ post s1) ∨ ∃ s1 s2 m', t s = .ok true s1 ∧ (b s1 = .nx s2 ∨ b s1 = .ct s2) ∧ m' < m ∧ I m' s2) : ∀ n m s, I m s → m < n → ∃ s', whGo t b n s = .nx s' ∧ post s'
  | 0, m, s, _, hm => absurd hm (Nat.not_lt_zero _)
  | n + 1, m, s, i, hm => by
    unfold whGo
    rcases h m s i with ⟨s1, e, p⟩ | ⟨s1, s2, m', e, e2, lt, i2⟩
    · rw [e]; exact ⟨s1, rfl, p⟩
    · rw [e]
      dsimp only
      rcases e2 with e2 | e2 <;> (rw [e2]; exact wh_rule I post h n m' s2 i2 (by omega))
/-- bits of a natural number -/
def siz (n : Nat) : Nat := if n = 0 then 0 else n.log2 + 1
theorem siz_half {r a : Nat} (h : 2 * r < a) : siz r < siz a := by
  unfold siz
  rw [if_neg (by omega : ¬ a = 0)]
  split
  · omega
  · rename_i hr
    have h1 : r.log2 + 1 = (2 * r).log2 := (Nat.log2_two_mul hr).symm
    have h2 : (2 * r).log2 ≤ a.log2 := (Nat.le_log2 (by omega)).mpr (Nat.le_trans (Nat.log2_self_le (by omega)) (Nat.le_of_lt h))
    omega
theorem siz_lt {n k : Nat} (h : n < 2 ^ k) : siz n ≤ k := by
  unfold siz
  split
  · omega
  · rename_i hn; have := (Nat.log2_lt hn).mpr h; omega
def euM (a b : Nat) : Nat := 2 * (siz a + siz b) + (if a < b then 1 else 0)
theorem eu_step {a b : Nat} (hb : 0 < b) : euM b (a % b) < euM a b := by
  unfold euM
  by_cases h : a < b
  · rw [Nat.mod_eq_of_lt h, if_pos h, if_neg (by omega)]
    omega
  · have h1 : a % b < b := Nat.mod_lt _ hb
    have h2 : 2 * (a % b) < a := by
      have := Nat.mod_add_div a b
      have h3 : 1 ≤ a / b := (Nat.one_le_div_iff hb).mpr (by omega)
      have h4 : b ≤ b * (a / b) := Nat.le_mul_of_pos_right b h3
      omega
    have := siz_half h2
    rw [if_neg h, if_neg (by omega)]
    omega
end Mp

/-! MpQ: sizes, numbers as pairs in lowest terms. -/
namespace Mp
open PySem
theorem siz_mono {a b : Nat} (h : a ≤ b) : siz a ≤ siz b := by
  unfold siz
  split
  · omega
  · rename_i ha
    rw [if_neg (by omega)]
    have : a.log2 ≤ b.log2 := (Nat.le_log2 (by omega)).mpr (Nat.le_trans (Nat.log2_self_le ha) h)
    omega
theorem lt_siz (n : Nat) : n < 2 ^ siz n := by
  unfold siz
  split
  · rename_i h; subst h; decide
  · rename_i h; exact Nat.lt_log2_self
theorem siz_mul (a b : Nat) : siz (a * b) ≤ siz a + siz b := by
  refine siz_lt ?_
  rw [Nat.pow_add]
  by_cases h : a = 0
  · subst h; simp; exact Nat.mul_pos (Nat.two_pow_pos _) (Nat.two_pow_pos _)
  · exact Nat.mul_lt_mul'' (lt_siz a) (lt_siz b)
theorem siz_add {a b k : Nat} (ha : siz a ≤ k) (hb : siz b ≤ k) : siz (a + b) ≤ k + 1 := by
  refine siz_lt ?_
  have h1 := Nat.lt_of_lt_of_le (lt_siz a) (Nat.pow_le_pow_right (by decide) ha)
  have h2 := Nat.lt_of_lt_of_le (lt_siz b) (Nat.pow_le_pow_right (by decide) hb)
  rw [Nat.pow_succ]; omega
theorem log_siz (n : Nat) : n.log2 ≤ siz n := by
  unfold siz
  split
  · rename_i h; subst h; decide
  · omega
/-- the size of an integer -/
abbrev sz (i : Int) : Nat := siz i.natAbs
theorem sz_mul (a b : Int) : sz (a * b) ≤ sz a + sz b := by
  unfold sz; rw [Int.natAbs_mul]; exact siz_mul _ _
theorem sz_add {a b : Int} {k : Nat} (ha : sz a ≤ k) (hb : sz b ≤ k) : sz (a + b) ≤ k + 1 := Nat.le_trans (siz_mono (Int.natAbs_add_le a b)) (siz_add ha hb)
theorem sz_neg (a : Int) : sz (-a) = sz a := by unfold sz; rw [Int.natAbs_neg]
theorem sz_sub {a b : Int} {k : Nat} (ha : sz a ≤ k) (hb : sz b ≤ k) : sz (a - b) ≤ k + 1 := by
  rw [Int.sub_eq_add_neg]; exact sz_add ha (by rw [sz_neg]; exact hb)
theorem eu_small {a b : Nat} (ha : siz a ≤ 100000) (hb : siz b ≤ 100000) : euM a b < fuel := by
  unfold euM fuel
  split <;> omega
theorem ok_mul {a b : Int} (ha : sz a ≤ 400000) (hb : sz b ≤ 400000) : okMul a b = true := by
  unfold okMul
  have h1 := log_siz a.natAbs
  have h2 := log_siz b.natAbs
  unfold sz at ha hb
  exact decide_eq_true (by omega)
theorem no_pylong {a b : Int} (hb : sz b ≤ 8000) : Builtin.divisionGoesByPylong a b = false := by
  have h2 := log_siz b.natAbs
  unfold sz at hb
  unfold Builtin.divisionGoesByPylong
  dsimp only
  have h3 : (if b == 0 then 0 else b.natAbs.log2 / 30 + 1) ≤ 300 := by
    split
    · omega
    · omega
  rw [decide_eq_false (by omega), Bool.false_and]
/-- a fraction as the program has it -/
def qv (r : Rat) : PV := .tup [.int r.num, .int r.den]
structure QB (k : Nat) (r : Rat) : Prop where
  n : sz r.num ≤ k
  d : siz r.den ≤ k
theorem gcd_pos {a b : Int} (hb : b ≠ 0) : 0 < Int.gcd a b := Nat.pos_of_ne_zero fun e => hb (Int.eq_zero_of_gcd_eq_zero_right e)
theorem num_pos {a b : Int} (hb : 0 < b) : (Rat.divInt a b).num = a / (Int.gcd a b : Int) := by
  rw [Rat.num_divInt, Int.sign_eq_one_of_pos hb, Int.one_mul, Int.gcd_comm]
theorem den_pos {a b : Int} (hb : 0 < b) : ((Rat.divInt a b).den : Int) = b / (Int.gcd a b : Int) := by
  rw [Rat.den_divInt, if_neg (by omega), Int.gcd_comm, Int.natCast_ediv, Int.natAbs_of_nonneg (by omega)]
theorem div_flip (a b : Int) : Rat.divInt a b = Rat.divInt (-a) (-b) := by
  by_cases hb : b = 0
  · subst hb; simp
  · exact (Rat.divInt_eq_divInt_iff hb (by omega)).mpr (by rw [Int.mul_neg, Int.neg_mul])
theorem sz_div (a : Int) (g : Int) : sz (a / g) ≤ sz a := siz_mono (Int.natAbs_ediv_le_natAbs a g)
theorem qb_div {a b : Int} {k : Nat} (ha : sz a ≤ k) (hb : sz b ≤ k) (h0 : b ≠ 0) : QB k (Rat.divInt a b) := by
  constructor
  · rw [Rat.num_divInt]
    refine Nat.le_trans (siz_mono ?_) ha
    refine Nat.le_trans (Int.natAbs_ediv_le_natAbs _ _) ?_
    rw [Int.natAbs_mul, Int.natAbs_sign_of_ne_zero h0, Nat.one_mul]
    exact Nat.le_refl _
  · rw [Rat.den_divInt, if_neg h0]
    exact Nat.le_trans (siz_mono (Nat.div_le_self _ _)) hb
theorem qb_add {r s : Rat} {k l : Nat} (hr : QB k r) (hs : QB l s) : QB (k + l + 1) (r + s) := by
  have e : r + s = Rat.divInt (r.num * s.den + s.num * r.den) (r.den * s.den) := by
    conv => lhs; rw [← Rat.num_divInt_den r, ← Rat.num_divInt_den s]
    exact Rat.divInt_add_divInt _ _ (by have := r.den_nz; omega) (by have := s.den_nz; omega)
  rw [e]
  refine qb_div (sz_add ?_ ?_) ?_ ?_
  · exact Nat.le_trans (sz_mul _ _) (Nat.add_le_add hr.n hs.d)
  · refine Nat.le_trans (sz_mul _ _) ?_
    have := hs.n; have := hr.d
    show sz s.num + siz r.den ≤ _
    omega
  · refine Nat.le_trans (sz_mul _ _) ?_
    have := hs.d; have := hr.d
    show siz r.den + siz s.den ≤ _
    omega
  · have := r.den_nz; have := s.den_nz
    exact Int.mul_ne_zero (by omega) (by omega)
theorem qb_mul {r s : Rat} {k l : Nat} (hr : QB k r) (hs : QB l s) : QB (k + l) (r * s) := by
  have e : r * s = Rat.divInt (r.num * s.num) (r.den * s.den) := by
    conv => lhs; rw [← Rat.num_divInt_den r, ← Rat.num_divInt_den s]
    exact Rat.divInt_mul_divInt _ _
  rw [e]
  refine qb_div ?_ ?_ ?_
  · exact Nat.le_trans (sz_mul _ _) (Nat.add_le_add hr.n hs.n)
  · exact Nat.le_trans (sz_mul _ _) (Nat.add_le_add hr.d hs.d)
  · have := r.den_nz; have := s.den_nz
    exact Int.mul_ne_zero (by omega) (by omega)
theorem qb_neg {r : Rat} {k : Nat} (hr : QB k r) : QB k (-r) := ⟨by rw [Rat.neg_num, sz_neg]; exact hr.n, by rw [Rat.neg_den]; exact hr.d⟩
theorem QB.mono {r : Rat} {k l : Nat} (h : QB k r) (hl : k ≤ l) : QB l r := ⟨Nat.le_trans h.n hl, Nat.le_trans h.d hl⟩
end Mp
namespace Mp
open PySem
theorem rat_add (r s : Rat) : Rat.divInt (r.num * s.den + s.num * r.den) (r.den * s.den) = r + s := by
  conv => rhs; rw [← Rat.num_divInt_den r, ← Rat.num_divInt_den s]
  exact (Rat.divInt_add_divInt _ _ (by have := r.den_nz; omega) (by have := s.den_nz; omega)).symm
theorem rat_mul (r s : Rat) : Rat.divInt (r.num * s.num) (r.den * s.den) = r * s := by
  conv => rhs; rw [← Rat.num_divInt_den r, ← Rat.num_divInt_den s]
  exact (Rat.divInt_mul_divInt _ _).symm
theorem rat_sub (r s : Rat) : Rat.divInt (r.num * s.den - s.num * r.den) (r.den * s.den) = r - s := by
  have := rat_add r (-s)
  rw [Rat.neg_num, Rat.neg_den, Int.neg_mul, ← Int.sub_eq_add_neg] at this
  rw [this, Rat.sub_eq_add_neg]
theorem rat_div (r s : Rat) (h : s ≠ 0) : Rat.divInt (r.num * s.den) (r.den * s.num) = r / s := by
  have h1 : s.num ≠ 0 := fun e => h (Rat.num_eq_zero.mp e)
  rw [Rat.div_def, Rat.inv_def]
  conv => rhs; rw [← Rat.num_divInt_den r]
  exact (Rat.divInt_mul_divInt _ _).symm
theorem qv_one (a : Int) : qv (Rat.divInt a 1) = .tup [.int a, .int 1] := by
  have h1 := num_pos (a := a) (b := 1) (by decide)
  have h2 := den_pos (a := a) (b := 1) (by decide)
  unfold qv
  rw [h1, h2]
  simp
theorem qv_inj {r s : Rat} : (qv r).eqv (qv s) = decide (r = s) := by
  by_cases h : r = s
  · subst h; simp [qv, PV.eqv, PV.eqvL]
  · rw [decide_eq_false h]
    simp only [qv, PV.eqv, PV.eqvL, Bool.and_true, Bool.and_eq_false_iff, decide_eq_false_iff_not]
    by_cases h2 : r.num = s.num
    · right
      intro h3
      exact h (Rat.ext h2 (by omega))
    · exact .inl h2
theorem qv_dat (r : Rat) : (qv r).dat 20 = true := by simp [qv, PV.dat, PV.isd, PV.isdL, PV.dep, PV.depL]
@[simp high] theorem q_sub0 (r : Rat) : subV (qv r) (.int 0) = some (.int r.num) := rfl
@[simp high] theorem q_sub1 (r : Rat) : subV (qv r) (.int 1) = some (.int r.den) := rfl
@[simp high] theorem q_eq (r s : Rat) : cmpV .Eq (qv r) (qv s) = some (decide (r = s)) := by
  show (if (qv r).dat 20 && (qv s).dat 20 then some ((qv r).eqv (qv s)) else none) = _
  rw [qv_dat, qv_dat, qv_inj]; rfl
@[simp high] theorem q_ne (r s : Rat) : cmpV .NotEq (qv r) (qv s) = some (!decide (r = s)) := by
  show (if (qv r).dat 20 && (qv s).dat 20 then some (!(qv r).eqv (qv s)) else none) = _
  rw [qv_dat, qv_dat, qv_inj]; rfl
@[simp high] theorem q_isi (r : Rat) : isiV (qv r) "tuple" = some true := rfl
@[simp high] theorem q_len (r : Rat) : biV .len [qv r] = some (.val (.int 2)) := rfl
@[simp high] theorem q_it (r : Rat) : itV .val [qv r] = some [.int r.num, .int r.den] := rfl
theorem den_pos' (r : Rat) : (0 : Int) < r.den := by have := r.den_nz; omega
theorem den_ne (r : Rat) : ¬ ((r.den : Int) = 0) := by have := r.den_nz; omega
end Mp
namespace Mp
open PySem
theorem log_lt {i : Int} (h : sz i ≤ 1900) : i.natAbs.log2 < 1920 := by
  have := log_siz i.natAbs
  unfold sz at h
  omega
theorem int_shown (i : Int) (h : sz i ≤ 1900) : (PyData.int i).shown.length ≤ 1921 := PyProof.Rows.int_text_len_1921 (log_lt h)
theorem q_shown {r : Rat} (h : QB 1900 r) : (qv r).toD.shown.length ≤ 4000 ∧ (qv r).toD.showable = true := by
  constructor
  · have h1 := int_shown r.num h.n
    have h2 := int_shown (r.den : Int) h.d
    have := PySem.tupleText_len_le [(PyData.int r.num).shown, (PyData.int r.den).shown]
    simp only [List.map_cons, List.map_nil, List.sum_cons, List.sum_nil, List.length_cons, List.length_nil] at this
    show (PySem.tupleText [(PyData.int r.num).shown, (PyData.int r.den).shown]).length ≤ 4000
    omega
  · simp [qv, PV.toD, PV.toDs, PyData.showable, PyData.showableAll, log_lt h.n, log_lt (i := (r.den : Int)) h.d]
    exact log_lt (i := (r.den : Int)) h.d
end Mp

/-! MpAb: runs over draws. -/
namespace Mp
open PySem
/-- what a draw picks from -/
def itemsOf : PV → Option (List PV)
  | .lst l => some l
  | .tup l => some l
  | .str s => if s.length ≤ line then some (s.cps.toList.map fun c => .str ⟨#[c]⟩) else none
  | _ => none
/-- the draw j of what stands in the second slot -/
def pickA (ns : List Nat) : Sg → Rs RV
  | [.own false (.dic j), .pv x] => match itemsOf x with
    | some l => if 0 < l.length ∧ ns[j]? = some l.length then .ok (.val (.cas j l)) [.own false (.dic (j + 1)), .pv x] else .no
    | none => .no
  | [.own false (.dic j), .own false x] => match itemsOf x with
    | some l => if 0 < l.length ∧ ns[j]? = some l.length then .ok (.val (.cas j l)) [.own false (.dic (j + 1)), .un] else .no
    | none => .no
  | _ => .no
/-- a def's run, its calls by cl -/
def stepF (tb : Nat → Option Fd) (cl : Cl) : Cl := fun g as => match tb g with
  | none => .no
  | some d => if as.length = d.np then
      match exSs cl tb d.body (as ++ List.replicate (d.N.length - d.np) .un) with
      | .nx s => .ok (.val .non) (outs d.mp s 0 as)
      | .rt r s => if isBor r then .no else .ok r (outs d.mp s 0 as)
      | .er x s => .er x (outs d.mp s 0 as)
      | _ => .no
    else .no
theorem runF_succ (tb : Nat → Option Fd) (n : Nat) : runF tb (n + 1) = stepF tb (runF tb n) := by
  funext g as
  show runF tb (n + 1) g as = _
  unfold runF
  rfl
/-- the table, marked -/
def tbA (tb : Nat → Option Fd) (ns : List Nat) : Nat → Option Fd := fun g => if g = MDNO then some ⟨"", [], 0, [], ns, [], none, false⟩ else tb g
/-- a run in which the def pk draws -/
def runA (tb : Nat → Option Fd) (pk : Nat) (ns : List Nat) : Nat → Cl
  | 0, _, _ => .no
  | n + 1, g, as => if g = pk then (if 3 ≤ n then pickA ns as else .no) else if g = MDNO then .no else stepF (tbA tb ns) (runA tb pk ns n) g as
/-- a run that answers True, its draws m -/
def goodA (tb : Nat → Option Fd) (pk : Nat) (ns : List Nat) (n g : Nat) (as : Sg) : Option Nat := match runA tb pk ns n g as with
  | .ok (.val (.bl true)) (.own false (.dic m) :: _) => some m
  | _ => none
end Mp

/-! MpSim: a run over draws tells what each run does. -/
namespace Mp
open PySem
section
variable (ρ : Nat → Nat) (D : Nat → PV)
mutual
/-- the value, all draws told -/
def res : PV → PV
  | .non => .non
  | .bl b => .bl b
  | .int i => .int i
  | .str s => .str s
  | .ty n => .ty n
  | .fn g => .fn g
  | .tup xs => .tup (resL xs)
  | .lst xs => .lst (resL xs)
  | .frz xs => .frz (resL xs)
  | .dct ks vs => .dct ks (resL vs)
  | .ins c fs => .ins c (resL fs)
  | .cas k xs => PV.pick (ρ k) (resL xs)
  | .dic j => D j
def resL : List PV → List PV
  | [] => []
  | x :: xs => res x :: resL xs
end
def resS : Slot → Slot
  | .un => .un
  | .pv x => .pv (res ρ D x)
  | .own t x => .own t (res ρ D x)
  | .lam hs => .lam hs
def resG (s : Sg) : Sg := s.map (resS ρ D)
def resR : RV → RV
  | .val x => .val (res ρ D x)
  | .frs x => .frs (res ρ D x)
  | .bor i => .bor i
def resX (x : Xc) : Xc := ⟨x.c, x.fs.map fun q => (q.1, res ρ D q.2)⟩
/-- b does what a tells -/
def SimR {α : Type} (c : α → α) (a b : Rs α) : Prop := match a with
  | .ok r s => b = .ok (c r) (resG ρ D s)
  | .er x s => b = .er (resX ρ D x) (resG ρ D s)
  | .no => True
def SimS (a b : Ss) : Prop := match a with
  | .nx s => b = .nx (resG ρ D s)
  | .rt r s => b = .rt (resR ρ D r) (resG ρ D s)
  | .bk s => b = .bk (resG ρ D s)
  | .ct s => b = .ct (resG ρ D s)
  | .er x s => b = .er (resX ρ D x) (resG ρ D s)
  | .no => True
end
section
variable {ρ : Nat → Nat} {D : Nat → PV}
theorem resL_eq : ∀ xs : List PV, resL ρ D xs = xs.map (res ρ D)
  | [] => rfl
  | x :: xs => by rw [resL, resL_eq xs]; rfl
@[simp] theorem resL_len (xs : List PV) : (resL ρ D xs).length = xs.length := by rw [resL_eq, List.length_map]
mutual
theorem res_nod : ∀ x : PV, x.nod = true → res ρ D x = x
  | .non, _ => by unfold res; rfl
  | .bl _, _ => by unfold res; rfl
  | .int _, _ => by unfold res; rfl
  | .str _, _ => by unfold res; rfl
  | .ty _, _ => by unfold res; rfl
  | .fn _, _ => by unfold res; rfl
  | .tup xs, h => by unfold PV.nod at h; unfold res; rw [resL_nod xs h]
  | .lst xs, h => by unfold PV.nod at h; unfold res; rw [resL_nod xs h]
  | .frz xs, h => by unfold PV.nod at h; unfold res; rw [resL_nod xs h]
  | .dct _ xs, h => by unfold PV.nod at h; unfold res; rw [resL_nod xs h]
  | .ins _ xs, h => by unfold PV.nod at h; unfold res; rw [resL_nod xs h]
  | .cas _ _, h => by unfold PV.nod at h; cases h
  | .dic _, h => by unfold PV.nod at h; cases h
theorem resL_nod : ∀ xs : List PV, PV.nodL xs = true → resL ρ D xs = xs
  | [], _ => rfl
  | x :: xs, h => by
    unfold PV.nodL at h
    rw [Bool.and_eq_true] at h
    unfold resL
    rw [res_nod x h.1, resL_nod xs h.2]
end
mutual
theorem nod_isd : ∀ x : PV, x.isd = true → x.nod = true
  | .non, _ => rfl
  | .bl _, _ => rfl
  | .int _, _ => rfl
  | .str _, _ => rfl
  | .ty _, _ => rfl
  | .fn _, _ => rfl
  | .tup xs, h => by unfold PV.isd at h; unfold PV.nod; exact nodL_isd xs h
  | .lst xs, h => by unfold PV.isd at h; unfold PV.nod; exact nodL_isd xs h
  | .frz _, h => by unfold PV.isd at h; cases h
  | .dct _ _, h => by unfold PV.isd at h; cases h
  | .ins _ _, h => by unfold PV.isd at h; cases h
  | .cas _ _, h => by unfold PV.isd at h; cases h
  | .dic _, h => by unfold PV.isd at h; cases h
theorem nodL_isd : ∀ xs : List PV, PV.isdL xs = true → PV.nodL xs = true
  | [], _ => rfl
  | x :: xs, h => by
    unfold PV.isdL at h
    rw [Bool.and_eq_true] at h
    unfold PV.nodL
    rw [nod_isd x h.1, nodL_isd xs h.2]; rfl
end
theorem res_isd {x : PV} (h : x.isd = true) : res ρ D x = x := res_nod x (nod_isd x h)
theorem resL_isd {x : List PV} (h : PV.isdL x = true) : resL ρ D x = x := resL_nod x (nodL_isd x h)
theorem res_dat {n : Nat} {x : PV} (h : x.dat n = true) : res ρ D x = x := by
  unfold PV.dat at h
  rw [Bool.and_eq_true] at h
  exact res_isd h.1
theorem resL_dat {n : Nat} {x : List PV} (h : PV.datL n x = true) : resL ρ D x = x := by
  unfold PV.datL at h
  rw [Bool.and_eq_true] at h
  exact resL_isd h.1
theorem res_pick : ∀ (n : Nat) (xs : List PV), res ρ D (PV.pick n xs) = PV.pick n (resL ρ D xs)
  | n, [] => by cases n <;> (unfold PV.pick resL; unfold res PV.pick; rfl)
  | n, [x] => by cases n <;> (unfold resL resL PV.pick; rfl)
  | 0, x :: y :: xs => by unfold resL resL PV.pick; rfl
  | n + 1, x :: y :: xs => by
    have h := res_pick n (y :: xs)
    unfold resL at h
    show res ρ D (PV.pick n (y :: xs)) = PV.pick (n + 1) (res ρ D x :: resL ρ D (y :: xs))
    unfold resL
    exact h
theorem pick_at {xs : List PV} {n : Nat} (h : n < xs.length) : xs[n]? = some (PV.pick n xs) := by
  induction xs generalizing n with
  | nil => simp at h
  | cons x xs ih =>
    cases xs with
    | nil =>
      have : n = 0 := by simp at h; exact h
      subst this
      rfl
    | cons y ys =>
      cases n with
      | zero => rfl
      | succ n => exact ih (by simpa using h)
theorem resL_append (a b : List PV) : resL ρ D (a ++ b) = resL ρ D a ++ resL ρ D b := by rw [resL_eq, resL_eq, resL_eq, List.map_append]
theorem resL_rep (a : List PV) (n : Nat) : resL ρ D (repL a n) = repL (resL ρ D a) n := by
  rw [resL_eq, resL_eq]
  unfold repL
  rw [List.map_flatten, List.map_replicate]
theorem ixP_lt {n : Nat} {i : Int} {j : Nat} (h : ixP n i = some j) : True := trivial
theorem atP_map {α β : Type} (f : α → β) (xs : List α) (i : Int) : atP (xs.map f) i = (atP xs i).map f := by
  unfold atP
  rw [List.length_map]
  cases ixP xs.length i with
  | none => rfl
  | some j => dsimp only; rw [List.getElem?_map]
theorem cutP_map {α β : Type} (f : α → β) (xs : List α) (lo hi : Option Int) : cutP (xs.map f) lo hi = (cutP xs lo hi).map f := by
  unfold cutP
  rw [List.length_map, List.map_take, List.map_drop]
theorem binV_res {op : Operator} {x y : PV} {r : RV} (h : binV op x y = some r) : binV op (res ρ D x) (res ρ D y) = some (resR ρ D r) := by
  unfold binV at h
  split at h
  · rename_i op i j
    obtain ⟨k, h1, rfl⟩ := Option.map_eq_some_iff.mp h
    unfold res
    unfold binV
    cases op <;> (simp only [h1, Option.map_some]; rfl)
  · split at h
    · rename_i a b hl
      cases h
      unfold res binV
      dsimp only
      rw [if_pos hl]
      rfl
    · cases h
  · split at h
    · rename_i a b hl
      cases h
      unfold res binV
      dsimp only
      rw [if_pos (by simpa using hl)]
      show some (RV.val (.tup _)) = some (RV.val (.tup (resL ρ D (a ++ b))))
      rw [resL_append]
    · cases h
  · split at h
    · rename_i a b hl
      cases h
      unfold res binV
      dsimp only
      rw [if_pos (by simpa using hl)]
      show some (RV.frs (.lst _)) = some (RV.frs (.lst (resL ρ D (a ++ b))))
      rw [resL_append]
    · cases h
  · split at h
    · rename_i a b hl
      cases h
      unfold res binV
      dsimp only
      rw [if_pos (by simpa using hl)]
      show some (RV.frs (.lst _)) = some (RV.frs (.lst (resL ρ D (repL a b.toNat))))
      rw [resL_rep]
    · cases h
  · split at h
    · rename_i a b hl
      cases h
      unfold res binV
      dsimp only
      rw [if_pos (by simpa using hl)]
      show some (RV.val (.tup _)) = some (RV.val (.tup (resL ρ D (repL a b.toNat))))
      rw [resL_rep]
    · cases h
  · cases h
theorem key_res {x : PV} {k : L2.Key} (h : keyOf x = some k) : res ρ D x = x := by
  unfold keyOf at h
  split at h <;> first | rfl | cases h
theorem look_res : ∀ {l : List L2.Key} {vs : List PV} {k : L2.Key} {v : PV}, lookK l vs k = some v → lookK l (resL ρ D vs) k = some (res ρ D v)
  | [], vs, _, _, h => by cases vs <;> cases h
  | _ :: _, [], _, _, h => by cases h
  | j :: l, x :: vs, k, v, h => by
    have h' : (if k = j then some x else lookK l vs k) = some v := h
    show (if k = j then some (res ρ D x) else lookK l (resL ρ D vs) k) = some (res ρ D v)
    split at h'
    · rename_i hk; rw [if_pos hk]; cases h'; rfl
    · rename_i hk; rw [if_neg hk]; exact look_res h'
theorem subV_res {x y v : PV} (h : subV x y = some v) : subV (res ρ D x) (res ρ D y) = some (res ρ D v) := by
  unfold subV at h
  split at h
  · show atP (resL ρ D _) _ = _; rw [resL_eq, atP_map, h]; rfl
  · show atP (resL ρ D _) _ = _; rw [resL_eq, atP_map, h]; rfl
  · show atP (resL ρ D _) _ = _; rw [resL_eq, atP_map, h]; rfl
  · split at h
    · rename_i s i hl
      obtain ⟨c, h1, rfl⟩ := Option.map_eq_some_iff.mp h
      unfold res subV
      dsimp only
      rw [if_pos hl, h1]
      rfl
    · cases h
  · rename_i ks vs
    have h' : (match keysOf ks, keyOf y with
      | some l, some k => lookK l vs k
      | _, _ => none) = some v := h
    cases hl : keysOf ks with
    | none => rw [hl] at h'; cases h'
    | some l =>
      cases hk : keyOf y with
      | none => rw [hl, hk] at h'; cases h'
      | some k =>
        rw [hl, hk] at h'
        rw [key_res hk]
        have goal : (match keysOf ks, keyOf y with
          | some l, some k => lookK l (resL ρ D vs) k
          | _, _ => none) = some (res ρ D v) := by rw [hl, hk]; exact look_res h'
        cases y <;> first | exact goal | cases hk
  · cases h
theorem slcV_res {x : PV} {lo hi : Option Int} {r : RV} (h : slcV x lo hi = some r) : slcV (res ρ D x) lo hi = some (resR ρ D r) := by
  unfold slcV at h
  split at h
  · cases h; show some (RV.val (.tup (cutP (resL ρ D _) lo hi))) = some (RV.val (.tup (resL ρ D _))); rw [resL_eq, resL_eq, cutP_map]
  · cases h; show some (RV.frs (.lst (cutP (resL ρ D _) lo hi))) = some (RV.frs (.lst (resL ρ D _))); rw [resL_eq, resL_eq, cutP_map]
  · cases h
theorem truV_res {x : PV} {b : Bool} (h : truV x = some b) : truV (res ρ D x) = some b := by
  unfold truV at h
  split at h
  · cases h; rfl
  · cases h; rfl
  · cases h; rfl
  · unfold res; exact h
  · cases h; rename_i xs; unfold res truV; cases xs <;> rfl
  · cases h; rename_i xs; unfold res truV; cases xs <;> rfl
  · cases h
theorem inV_res {x y : PV} {b : Bool} (h : inV x y = some b) : inV (res ρ D x) (res ρ D y) = some b := by
  unfold inV at h
  split at h
  · split at h
    · rename_i ys hc
      rw [Bool.and_eq_true] at hc
      rw [res_dat hc.1]
      unfold res
      rw [resL_dat hc.2]
      unfold inV
      dsimp only
      rw [if_pos (by rw [hc.1, hc.2]; rfl)]
      exact h
    · cases h
  · split at h
    · rename_i ys hc
      rw [Bool.and_eq_true] at hc
      rw [res_dat hc.1]
      unfold res
      rw [resL_dat hc.2]
      unfold inV
      dsimp only
      rw [if_pos (by rw [hc.1, hc.2]; rfl)]
      exact h
    · cases h
  · split at h
    · unfold res; exact h
    · cases h
  · rename_i ks vs
    have h' : (match keysOf ks, keyOf x with
      | some l, some k => some (l.any fun j => decide (j = k))
      | _, _ => none) = some b := h
    cases hk : keyOf x with
    | none => rw [hk] at h'; cases hl : keysOf ks <;> rw [hl] at h' <;> cases h'
    | some k => rw [key_res hk]; exact h'
  · cases h
mutual
theorem isd_isc : ∀ x : PV, x.isc = true → (res ρ D x).isd = true
  | .non, _ => rfl
  | .bl _, _ => rfl
  | .int _, _ => rfl
  | .str _, h => by unfold res; exact h
  | .tup xs, h => by unfold PV.isc at h; unfold res PV.isd; exact isdL_iscL xs h
  | .lst xs, h => by unfold PV.isc at h; unfold res PV.isd; exact isdL_iscL xs h
  | .cas k xs, h => by
    unfold PV.isc at h
    unfold res
    have hl := isdL_iscL xs h
    generalize resL ρ D xs = ys at hl
    generalize ρ k = n
    induction ys generalizing n with
    | nil => cases n <;> rfl
    | cons y ys ih =>
      unfold PV.isdL at hl
      rw [Bool.and_eq_true] at hl
      cases ys with
      | nil => cases n <;> exact hl.1
      | cons w ws =>
        cases n with
        | zero => exact hl.1
        | succ n => exact ih hl.2 n
  | .ty _, h => by unfold PV.isc at h; cases h
  | .fn _, h => by unfold PV.isc at h; cases h
  | .frz _, h => by unfold PV.isc at h; cases h
  | .dct _ _, h => by unfold PV.isc at h; cases h
  | .ins _ _, h => by unfold PV.isc at h; cases h
  | .dic _, h => by unfold PV.isc at h; cases h
theorem isdL_iscL : ∀ xs : List PV, PV.iscL xs = true → PV.isdL (resL ρ D xs) = true
  | [], _ => rfl
  | x :: xs, h => by
    unfold PV.iscL at h
    rw [Bool.and_eq_true] at h
    unfold resL PV.isdL
    rw [isd_isc x h.1, isdL_iscL xs h.2]
    rfl
end
theorem dep_pick : ∀ (n : Nat) (ys : List PV), (PV.pick n ys).dep ≤ PV.depL ys
  | n, [] => by cases n <;> exact Nat.zero_le _
  | n, [y] => by cases n <;> (unfold PV.depL; exact Nat.le_max_left _ _)
  | 0, y :: w :: ws => by unfold PV.depL; exact Nat.le_max_left _ _
  | n + 1, y :: w :: ws => by
    unfold PV.depL
    exact Nat.le_trans (dep_pick n (w :: ws)) (Nat.le_max_right _ _)
mutual
theorem dep_isc : ∀ x : PV, x.isc = true → (res ρ D x).dep ≤ x.dep
  | .non, _ => Nat.le_refl _
  | .bl _, _ => Nat.le_refl _
  | .int _, _ => Nat.le_refl _
  | .str _, h => Nat.le_refl _
  | .tup xs, h => by unfold PV.isc at h; unfold res PV.dep; exact Nat.succ_le_succ (depL_iscL xs h)
  | .lst xs, h => by unfold PV.isc at h; unfold res PV.dep; exact Nat.succ_le_succ (depL_iscL xs h)
  | .cas k xs, h => by
    unfold PV.isc at h
    unfold res
    exact Nat.le_trans (dep_pick _ _) (depL_iscL xs h)
  | .ty _, h => by unfold PV.isc at h; cases h
  | .fn _, h => by unfold PV.isc at h; cases h
  | .frz _, h => by unfold PV.isc at h; cases h
  | .dct _ _, h => by unfold PV.isc at h; cases h
  | .ins _ _, h => by unfold PV.isc at h; cases h
  | .dic _, h => by unfold PV.isc at h; cases h
theorem depL_iscL : ∀ xs : List PV, PV.iscL xs = true → PV.depL (resL ρ D xs) ≤ PV.depL xs
  | [], _ => Nat.le_refl _
  | x :: xs, h => by
    unfold PV.iscL at h
    rw [Bool.and_eq_true] at h
    unfold resL PV.depL
    have h1 := dep_isc x h.1
    have h2 := depL_iscL xs h.2
    omega
end
mutual
theorem eqv_refl : ∀ x : PV, x.isd = true → x.eqv x = true
  | .non, _ => rfl
  | .bl b, _ => by unfold PV.eqv; exact beq_self_eq_true b
  | .int _, _ => by unfold PV.eqv; simp
  | .str _, _ => by unfold PV.eqv; simp
  | .tup xs, h => by unfold PV.isd at h; unfold PV.eqv; exact eqvL_refl xs h
  | .lst xs, h => by unfold PV.isd at h; unfold PV.eqv; exact eqvL_refl xs h
  | .ty _, h => by unfold PV.isd at h; cases h
  | .fn _, h => by unfold PV.isd at h; cases h
  | .frz _, h => by unfold PV.isd at h; cases h
  | .dct _ _, h => by unfold PV.isd at h; cases h
  | .ins _ _, h => by unfold PV.isd at h; cases h
  | .cas _ _, h => by unfold PV.isd at h; cases h
  | .dic _, h => by unfold PV.isd at h; cases h
theorem eqvL_refl : ∀ xs : List PV, PV.isdL xs = true → PV.eqvL xs xs = true
  | [], _ => rfl
  | x :: xs, h => by
    unfold PV.isdL at h
    rw [Bool.and_eq_true] at h
    unfold PV.eqvL
    rw [eqv_refl x h.1, eqvL_refl xs h.2]
    rfl
end
theorem strs_res {x y : PV} {a b : Str} (h : strs? x y = some (a, b)) : x = .str a ∧ y = .str b := by
  unfold strs? at h
  split at h
  · cases h; exact ⟨rfl, rfl⟩
  · cases h
theorem strs_self {x : PV} {q : Str × Str} (h : strs? x x = some q) : q.1 = q.2 := by
  obtain ⟨a, b⟩ := q
  obtain ⟨h1, h2⟩ := strs_res h
  rw [h1] at h2
  cases h2
  rfl
theorem casq_res {x y : PV} (h : PV.casq x y = true) : res ρ D x = res ρ D y ∧ (res ρ D x).dat 20 = true := by
  unfold PV.casq at h
  simp only [Bool.and_eq_true, decide_eq_true_eq] at h
  obtain ⟨⟨⟨h1, _⟩, h2⟩, h3⟩ := h
  refine ⟨by rw [beq_eq _ _ h3], ?_⟩
  unfold PV.dat
  rw [isd_isc x h1, Bool.true_and]
  exact decide_eq_true (Nat.le_trans (dep_isc x h1) h2)
theorem isNo_res {x : PV} {b : Bool} (h : isNo x = some b) : isNo (res ρ D x) = some b := by
  cases x <;> first | (cases h; done) | (unfold res; exact h)
theorem dats_res : ∀ {xs : List PV}, xs.all (fun v => v.dat 20) = true → resL ρ D xs = xs
  | [], _ => rfl
  | x :: xs, h => by
    simp only [List.all_cons, Bool.and_eq_true] at h
    show res ρ D x :: resL ρ D xs = _
    rw [res_dat h.1, dats_res h.2]
theorem eqD_res {x y : PV} {b : Bool} (h : eqD x y = some b) : res ρ D x = x ∧ res ρ D y = y := by
  unfold eqD at h
  split at h
  · split at h
    · split at h
      · rename_i hd
        exact ⟨congrArg _ (dats_res hd.1), congrArg _ (dats_res hd.2)⟩
      · cases h
    · cases h
  · cases h
theorem cmpV_res {op : CmpOp} {x y : PV} {b : Bool} (h : cmpV op x y = some b) : cmpV op (res ρ D x) (res ρ D y) = some b := by
  cases op with
  | Eq =>
    unfold cmpV at h
    dsimp only at h
    cases e : strs? x y with
    | some q =>
      obtain ⟨a, c⟩ := q
      rw [e] at h
      obtain ⟨rfl, rfl⟩ := strs_res e
      exact h
    | none =>
      rw [e] at h
      dsimp only at h
      split at h
      · rename_i hc
        rw [Bool.and_eq_true] at hc
        rw [res_dat hc.1, res_dat hc.2]
        unfold cmpV
        dsimp only
        rw [e]
        dsimp only
        rw [if_pos (by rw [hc.1, hc.2]; rfl)]
        exact h
      · split at h
        · rename_i hc
          cases h
          obtain ⟨h1, h2⟩ := casq_res (ρ := ρ) (D := D) hc
          rw [← h1]
          unfold cmpV
          dsimp only
          cases e2 : strs? (res ρ D x) (res ρ D x) with
          | some q => obtain ⟨a, c⟩ := q; have := strs_self e2; simp at this; simp [this]
          | none =>
            dsimp only
            rw [if_pos (by rw [h2]; rfl), eqv_refl _ (by unfold PV.dat at h2; exact (Bool.and_eq_true_iff.mp h2).1)]
        · rename_i hc hq
          obtain ⟨h1, h2⟩ := eqD_res (ρ := ρ) (D := D) h
          rw [h1, h2]
          unfold cmpV
          dsimp only
          rw [e]
          dsimp only
          rw [if_neg hc, if_neg hq]
          exact h
  | NotEq =>
    unfold cmpV at h
    dsimp only at h
    cases e : strs? x y with
    | some q =>
      obtain ⟨a, c⟩ := q
      rw [e] at h
      obtain ⟨rfl, rfl⟩ := strs_res e
      exact h
    | none =>
      rw [e] at h
      dsimp only at h
      split at h
      · rename_i hc
        rw [Bool.and_eq_true] at hc
        rw [res_dat hc.1, res_dat hc.2]
        unfold cmpV
        dsimp only
        rw [e]
        dsimp only
        rw [if_pos (by rw [hc.1, hc.2]; rfl)]
        exact h
      · split at h
        · rename_i hc
          cases h
          obtain ⟨h1, h2⟩ := casq_res (ρ := ρ) (D := D) hc
          rw [← h1]
          unfold cmpV
          dsimp only
          cases e2 : strs? (res ρ D x) (res ρ D x) with
          | some q => obtain ⟨a, c⟩ := q; have := strs_self e2; simp at this; simp [this]
          | none =>
            dsimp only
            rw [if_pos (by rw [h2]; rfl), eqv_refl _ (by unfold PV.dat at h2; exact (Bool.and_eq_true_iff.mp h2).1)]
            rfl
        · rename_i hc hq
          obtain ⟨k', e1, e2⟩ := Option.map_eq_some_iff.mp h
          obtain ⟨h1, h2⟩ := eqD_res (ρ := ρ) (D := D) e1
          rw [h1, h2]
          unfold cmpV
          dsimp only
          rw [e]
          dsimp only
          rw [if_neg hc, if_neg hq]
          exact h
  | Is =>
    unfold cmpV at h
    dsimp only at h
    split at h
    · unfold cmpV; exact isNo_res h
    · cases h
  | IsNot =>
    unfold cmpV at h
    dsimp only at h
    split at h
    · obtain ⟨c, h1, rfl⟩ := Option.map_eq_some_iff.mp h
      unfold cmpV
      show (isNo (res ρ D x)).map _ = _
      rw [isNo_res h1]
      rfl
    · cases h
  | In => exact inV_res h
  | NotIn =>
    unfold cmpV at h
    obtain ⟨c, h1, rfl⟩ := Option.map_eq_some_iff.mp h
    show (inV (res ρ D x) (res ρ D y)).map _ = _
    rw [inV_res h1]
    rfl
  | Lt => unfold cmpV at h; dsimp only at h; split at h <;> first | exact h | cases h
  | LtE => unfold cmpV at h; dsimp only at h; split at h <;> first | exact h | cases h
  | Gt => unfold cmpV at h; dsimp only at h; split at h <;> first | exact h | cases h
  | GtE => unfold cmpV at h; dsimp only at h; split at h <;> first | exact h | cases h
end
end Mp

/-! MpSi2: built-ins, states. -/
namespace Mp
open PySem
section
variable {ρ : Nat → Nat} {D : Nat → PV}
theorem bools_res : ∀ {l : List PV} {bs : List Bool}, bools l = some bs → resL ρ D l = l
  | [], _, _ => rfl
  | x :: xs, bs, h => by
    unfold bools at h
    split at h
    · rename_i heq; cases heq
    · rename_i heq
      cases heq
      split at h
      · rename_i hl
        unfold resL res
        rw [bools_res hl]
      · cases h
    · cases h
theorem ints_res : ∀ {l : List PV} {bs : List Int}, intsOf l = some bs → resL ρ D l = l
  | [], _, _ => rfl
  | x :: xs, bs, h => by
    unfold intsOf at h
    split at h
    · rename_i heq; cases heq
    · rename_i heq
      cases heq
      split at h
      · rename_i hl
        unfold resL res
        rw [ints_res hl]
      · cases h
    · cases h
theorem strs1_res : ∀ {l : List PV} {bs : List Str}, strsOf l = some bs → resL ρ D l = l
  | [], _, _ => rfl
  | x :: xs, bs, h => by
    unfold strsOf at h
    split at h
    · rename_i heq; cases heq
    · rename_i heq
      cases heq
      split at h
      · rename_i hl
        unfold resL res
        rw [strs1_res hl]
      · cases h
    · cases h
theorem strsL_res : ∀ (ss : List Str), resL ρ D (ss.map PV.str) = ss.map PV.str
  | [] => rfl
  | s :: ss => by
    show res ρ D (.str s) :: resL ρ D (ss.map PV.str) = _
    rw [strsL_res ss]; rfl
theorem rpt_res {x : PV} (h : x.rpt = true) : res ρ D x = x := by
  unfold PV.rpt at h
  split at h
  · simp only [Bool.and_eq_true] at h
    unfold res
    rw [resL_dat h.1.1.2]
  · exact res_dat h
theorem isi_res {x : PV} {n : String} {b : Bool} (h : isiV x n = some b) : isiV (res ρ D x) n = some b := by
  cases x <;> first | (unfold isiV at h; cases h; done) | exact h
theorem biV_res {b : Bi} {xs : List PV} {r : RV} (h : biV b xs = some r) : biV b (resL ρ D xs) = some (resR ρ D r) := by
  unfold biV at h
  split at h
  · cases h; show some (RV.val (.int ((resL ρ D _).length : Nat))) = _; rw [resL_len]; rfl
  · cases h; show some (RV.val (.int ((resL ρ D _).length : Nat))) = _; rw [resL_len]; rfl
  · cases h; show some (RV.val (.int ((resL ρ D _).length : Nat))) = _; rw [resL_len]; rfl
  · cases h; rfl
  · split at h
    · rename_i hl; cases h; unfold resL res resL biV; dsimp only; rw [if_pos hl]; rfl
    · cases h
  · cases h; rfl
  · cases h; rfl
  · cases h; rfl
  · cases h; rfl
  · cases h; rfl
  · cases h; rfl
  · cases h; rfl
  · cases h; rfl
  · cases h; rfl
  · split at h
    · rename_i l _ bs hb; cases h; show (match bools (resL ρ D l) with
        | some bs => some (RV.val (.bl (bs.all id)))
        | none => none) = _
      rw [bools_res hb, hb]; rfl
    · cases h
  · split at h
    · rename_i l _ bs hb; cases h; show (match bools (resL ρ D l) with
        | some bs => some (RV.val (.bl (bs.any id)))
        | none => none) = _
      rw [bools_res hb, hb]; rfl
    · cases h
  · split at h
    · rename_i l _ bs hb; cases h; show (match intsOf (resL ρ D l) with
        | some is => some (RV.val (.int is.sum))
        | none => none) = _
      rw [ints_res hb, hb]; rfl
    · cases h
  · split at h
    · rename_i hb
      split at h
      · rename_i hc
        cases h
        show biV .srt [.lst (resL ρ D _)] = some (.frs (.lst (resL ρ D _)))
        rw [strs1_res hb, strsL_res]
        unfold biV
        dsimp only
        rw [hb]
        exact if_pos hc
      · cases h
    · cases h
  · split at h
    · rename_i hb
      split at h
      · rename_i hc
        cases h
        show biV .srt [.dct _ (resL ρ D _)] = some (.frs (.lst (resL ρ D _)))
        rw [strsL_res]
        unfold biV
        dsimp only
        rw [hb]
        exact if_pos hc
      · cases h
    · cases h
  · split at h
    · rename_i x hc
      cases h
      have hc' := hc
      simp only [Bool.and_eq_true] at hc
      unfold resL resL
      rw [rpt_res hc.1.1]
      unfold biV
      dsimp only
      rw [if_pos hc']
      rfl
    · cases h
  · split at h
    · rename_i x n _ b hb
      cases h
      show (match isiV (res ρ D x) n with
        | some b => some (RV.val (.bl b))
        | none => none) = _
      rw [isi_res hb]
      rfl
    · cases h
  · cases h
theorem keys_res : ∀ {xs : List PV} {k : List L2.Key}, keysOf xs = some k → resL ρ D xs = xs
  | [], _, _ => rfl
  | x :: xs, k, h => by
    unfold keysOf at h
    split at h
    · rename_i h1 h2
      unfold resL
      rw [key_res h1, keys_res h2]
    · cases h
theorem itV_res {k : IK} {xs l : List PV} (h : itV k xs = some l) : itV k (resL ρ D xs) = some (resL ρ D l) := by
  unfold itV at h
  split at h
  · cases h; rfl
  · cases h; rfl
  · split at h
    · rename_i hc
      cases h
      obtain ⟨q, hq⟩ := Option.isSome_iff_exists.mp hc
      refine (if_pos hc).trans ?_
      rw [keys_res hq]
    · cases h
  · rename_i ks vs
    split at h
    · rename_i hc
      cases h
      obtain ⟨q, hq⟩ := Option.isSome_iff_exists.mp hc
      show (if (keysOf ks).isSome then some (List.zipWith (fun k v => PV.tup [k, v]) ks (resL ρ D vs)) else none) = _
      rw [if_pos hc]
      congr 1
      have hz : ∀ (a b : List PV), resL ρ D (List.zipWith (fun k v => PV.tup [k, v]) a b) = List.zipWith (fun k v => PV.tup [k, v]) (resL ρ D a) (resL ρ D b) := fun a b => by
        rw [resL_eq, resL_eq, resL_eq, List.zipWith_map, List.map_zipWith]
        rfl
      rw [hz, keys_res hq]
    · cases h
  · cases h; rfl
  · split at h
    · rename_i s hl
      cases h
      show (if s.length ≤ line then some (s.cps.toList.map fun c => PV.str ⟨#[c]⟩) else none) = some (resL ρ D _)
      rw [if_pos hl, resL_eq, List.map_map]
      rfl
    · cases h
  · split at h
    · rename_i j hl
      cases h
      show (if -(2 ^ 62) ≤ j ∧ j < 2 ^ 62 then some ((List.range j.toNat).map fun (i : Nat) => PV.int (0 + i)) else none) = some (resL ρ D _)
      rw [if_pos hl, resL_eq, List.map_map]
      rfl
    · cases h
  · split at h
    · rename_i i j hl
      cases h
      show (if -(2 ^ 62) ≤ i ∧ i < 2 ^ 62 ∧ -(2 ^ 62) ≤ j ∧ j < 2 ^ 62 then some ((List.range (j - i).toNat).map fun (k : Nat) => PV.int (i + k)) else none) = some (resL ρ D _)
      rw [if_pos hl, resL_eq, List.map_map]
      rfl
    · cases h
  · rename_i a b
    cases h
    show some (List.zipWith _ (resL ρ D a) (resL ρ D b)) = _
    rw [resL_eq, resL_eq, resL_eq, List.zipWith_map, List.map_zipWith]
    rfl
  · rename_i a b
    cases h
    show some (List.zipWith _ (resL ρ D a) (resL ρ D b)) = _
    rw [resL_eq, resL_eq, resL_eq, List.zipWith_map, List.map_zipWith]
    rfl
  · rename_i a b
    cases h
    show some (List.zipWith _ (resL ρ D a) (resL ρ D b)) = _
    rw [resL_eq, resL_eq, resL_eq, List.zipWith_map, List.map_zipWith]
    rfl
  · rename_i a b
    cases h
    show some (List.zipWith _ (resL ρ D a) (resL ρ D b)) = _
    rw [resL_eq, resL_eq, resL_eq, List.zipWith_map, List.map_zipWith]
    rfl
  · rename_i a
    cases h
    show some ((resL ρ D a).zipIdx.map _) = _
    rw [resL_eq, resL_eq, List.zipIdx_map, List.map_map, List.map_map]
    rfl
  · rename_i a
    cases h
    show some ((resL ρ D a).zipIdx.map _) = _
    rw [resL_eq, resL_eq, List.zipIdx_map, List.map_map, List.map_map]
    rfl
  · cases h
theorem unpair_res : ∀ {l ks vs : List PV}, unpair l = some (ks, vs) → unpair (resL ρ D l) = some (resL ρ D ks, resL ρ D vs)
  | [], _, _, h => by cases h; rfl
  | [_], _, _, h => by cases h
  | k :: v :: r, ks, vs, h => by
    unfold unpair at h
    cases e : unpair r with
    | none => rw [e] at h; cases h
    | some q =>
      obtain ⟨a, b⟩ := q
      rw [e] at h
      cases h
      unfold resL
      show (match unpair (resL ρ D r) with
        | some (ks, vs) => some (res ρ D k :: ks, res ρ D v :: vs)
        | none => none) = _
      rw [unpair_res e]
theorem dctV_res {l : List PV} {x : PV} (h : dctV l = some x) : dctV (resL ρ D l) = some (res ρ D x) := by
  unfold dctV at h
  split at h
  · rename_i ks vs e
    split at h
    · rename_i k hk
      split at h
      · rename_i hc
        cases h
        unfold dctV
        rw [unpair_res e]
        dsimp only
        rw [keys_res hk, hk]
        dsimp only
        rw [if_pos hc]
        rfl
      · cases h
    · cases h
  · cases h
theorem catS_res : ∀ {l : List PV} {t : Str}, catS l = some t → catS (resL ρ D l) = some t
  | [], _, h => h
  | x :: xs, t, h => by
    cases x <;> first | (cases h; done) | skip
    rename_i a
    unfold catS at h
    split at h
    · rename_i b hb
      show (match catS (resL ρ D xs) with
        | some b => if a.length + b.length ≤ line then some (a ++ b) else none
        | none => none) = _
      rw [catS_res hb]
      exact h
    · cases h
theorem repr_res {x : PV} {t : Str} (h : biV .repr [x] = some (.val (.str t))) : res ρ D x = x := by
  unfold biV at h
  dsimp only at h
  split at h
  · rename_i hc
    simp only [Bool.and_eq_true] at hc
    exact rpt_res hc.1.1
  · cases h
theorem fmtV_res {r : Bool} {x v : PV} (h : fmtV r x = some v) : fmtV r (res ρ D x) = some (res ρ D v) := by
  unfold fmtV at h
  cases r with
  | true =>
    rw [if_pos rfl] at h
    split at h
    · rename_i t ht
      cases h
      rw [repr_res ht]
      unfold fmtV
      rw [if_pos rfl, ht]
      rfl
    · cases h
  | false =>
    rw [if_neg (by decide)] at h
    split at h
    · rename_i t
      split at h
      · rename_i hl
        cases h
        unfold res fmtV
        rw [if_neg (by decide)]
        dsimp only
        rw [if_pos hl]
      · cases h
    · rename_i i
      split at h
      · rename_i t ht
        cases h
        unfold res fmtV
        rw [if_neg (by decide)]
        dsimp only
        rw [ht]
      · cases h
    · cases h
theorem pyNone : True := trivial
/-! ### states -/
variable {s s' : Sg}
theorem resG_at (i : Nat) : (resG ρ D s)[i]? = (s[i]?).map (resS ρ D) := by unfold resG; rw [List.getElem?_map]
@[simp] theorem resG_len : (resG ρ D s).length = s.length := by unfold resG; rw [List.length_map]
theorem resG_set (i : Nat) (x : Slot) : resG ρ D (s.set i x) = (resG ρ D s).set i (resS ρ D x) := by unfold resG; rw [List.map_set]
theorem resG_app (t : Sg) : resG ρ D (s ++ t) = resG ρ D s ++ resG ρ D t := by unfold resG; rw [List.map_append]
theorem resG_un (n : Nat) : resG ρ D (List.replicate n Slot.un) = List.replicate n Slot.un := by unfold resG; rw [List.map_replicate]; rfl
theorem resG_ro : resG ρ D (ro s) = ro (resG ρ D s) := by
  unfold resG ro
  rw [List.map_map, List.map_map]
  refine List.map_congr_left fun x _ => ?_
  cases x <;> rfl
theorem resG_sub {k : Nat} : resG ρ D (subS k (ρ k) s) = resG ρ D s := by
  unfold resG subS
  rw [List.map_map]
  refine List.map_congr_left fun x _ => ?_
  cases x with
  | un => rfl
  | lam _ => rfl
  | own t x => rfl
  | pv x =>
    show Slot.pv (res ρ D (x.subK k (ρ k))) = Slot.pv (res ρ D x)
    unfold PV.subK
    split
    · rename_i j xs
      split
      · rename_i e
        subst e
        rw [res_pick]
        rfl
      · rfl
    · rfl
theorem deref_res (r : RV) : deref (resG ρ D s) (resR ρ D r) = (deref s r).map (res ρ D) := by
  cases r with
  | val x => rfl
  | frs x => rfl
  | bor i =>
    unfold resR deref
    dsimp only
    rw [resG_at]
    cases s[i]? with
    | none => rfl
    | some sl => cases sl <;> rfl
theorem derefs_res : ∀ (rs : List RV), derefs (resG ρ D s) (rs.map (resR ρ D)) = (derefs s rs).map (resL ρ D)
  | [] => rfl
  | r :: rs => by
    rw [List.map_cons]
    unfold derefs
    rw [deref_res, derefs_res rs]
    cases deref s r <;> cases derefs s rs <;> rfl
theorem mut_res {x : PV} (h : x.mut = false) : (res ρ D x).mut = false := by cases x <;> first | rfl | cases h
theorem valOf_res {r : RV} {x : PV} (h : valOf r = some x) : valOf (resR ρ D r) = some (res ρ D x) := by
  cases r with
  | val y => cases h; rfl
  | frs y =>
    obtain ⟨hm, rfl⟩ := valOf_frs h
    show (if (res ρ D y).mut then none else some (res ρ D y)) = _
    rw [mut_res hm]
    rfl
  | bor i => cases h
theorem valsOf_res : ∀ {rs : List RV} {l : List PV}, valsOf rs = some l → valsOf (rs.map (resR ρ D)) = some (resL ρ D l)
  | [], _, h => by cases h; rfl
  | r :: rs, l, h => by
    unfold valsOf at h
    cases e1 : valOf r with
    | none => rw [e1] at h; cases h
    | some x =>
      cases e2 : valsOf rs with
      | none => rw [e1, e2] at h; cases h
      | some xs =>
        rw [e1, e2] at h
        cases h
        rw [List.map_cons]
        unfold valsOf
        rw [valOf_res e1, valsOf_res e2]
        rfl
theorem int_res {r : RV} {i : Int} (h : r.int? = some i) : (resR ρ D r).int? = some i := by
  unfold RV.int? at h
  split at h
  · exact h
  · cases h
theorem bl_res {r : RV} {i : Bool} (h : r.bl? = some i) : (resR ρ D r).bl? = some i := by
  unfold RV.bl? at h
  split at h
  · exact h
  · cases h
theorem val_res {r : RV} {i : PV} (h : r.val? = some i) : (resR ρ D r).val? = some (res ρ D i) := by
  unfold RV.val? at h
  split at h
  · cases h; rfl
  · cases h
mutual
theorem store_res : ∀ (t : Tg) (x : PV) (s s' : Sg), t.store x s = some s' → t.store (res ρ D x) (resG ρ D s) = some (resG ρ D s')
  | .nm i, x, s, s', h => by
    unfold Tg.store at h ⊢
    split at h
    · rename_i hl
      cases h
      rw [resG_len, if_pos hl, resG_set]
      rfl
    · cases h
  | .tp ts, x, s, s', h => by
    cases x <;> first | (unfold Tg.store at h; cases h; done) | skip
    rename_i xs
    unfold Tg.store at h
    unfold res Tg.store
    exact storeL_res ts xs s s' h
theorem storeL_res : ∀ (t : List Tg) (x : List PV) (s s' : Sg), Tg.storeL t x s = some s' → Tg.storeL t (resL ρ D x) (resG ρ D s) = some (resG ρ D s')
  | [], [], s, s', h => by unfold Tg.storeL at h; cases h; unfold resL Tg.storeL; rfl
  | [], _ :: _, s, s', h => by unfold Tg.storeL at h; cases h
  | _ :: _, [], s, s', h => by unfold Tg.storeL at h; cases h
  | t :: ts, x :: xs, s, s', h => by
    unfold Tg.storeL at h
    unfold resL Tg.storeL
    split at h
    · rename_i s1 e
      rw [store_res t x s s1 e]
      exact storeL_res ts xs s1 s' h
    · cases h
end
theorem asg_res {t : Tg} {r : RV} (h : t.asg r s = some s') : t.asg (resR ρ D r) (resG ρ D s) = some (resG ρ D s') := by
  unfold Tg.asg at h
  split at h
  · rename_i i x
    split at h
    · rename_i hl
      cases h
      unfold resR Tg.asg
      dsimp only
      rw [resG_len, if_pos hl, resG_set]
      rfl
    · cases h
  · unfold resR Tg.asg
    cases t <;> exact store_res _ _ _ _ h
  · cases h
theorem setAll_res : ∀ {is : List Nat} {rs : List RV} {s s' : Sg}, setAll is rs s = some s' → setAll is (rs.map (resR ρ D)) (resG ρ D s) = some (resG ρ D s')
  | [], [], _, _, h => by cases h; rfl
  | [], _ :: _, _, _, h => by cases h
  | _ :: _, [], _, _, h => by cases h
  | i :: is, r :: rs, s, s', h => by
    unfold setAll at h
    split at h
    · rename_i s1 e
      rw [List.map_cons]
      unfold setAll
      rw [asg_res e]
      exact setAll_res h
    · cases h
theorem wipe_res : ∀ (l : List Nat), resG ρ D (wipeP s l) = wipeP (resG ρ D s) l
  | [] => rfl
  | v :: vs => by unfold wipeP; rw [resG_set, wipe_res vs]; rfl
theorem back_res {old : Sg} : ∀ (l : List Nat), resG ρ D (backP old s l) = backP (resG ρ D old) (resG ρ D s) l
  | [] => rfl
  | v :: vs => by
    unfold backP
    rw [resG_set, back_res vs, resG_at]
    cases old[v]? <;> rfl
theorem retV_res {r r' : RV} (h : retV s r = some (r', s')) : retV (resG ρ D s) (resR ρ D r) = some (resR ρ D r', resG ρ D s') := by
  unfold retV at h
  split at h
  · cases h; rfl
  · cases h; rfl
  · rename_i i
    split at h
    · rename_i x e
      cases h
      unfold resR retV
      dsimp only
      rw [resG_at, e]
      show some (RV.frs _, _) = _
      rw [resG_set]
      rfl
    · cases h
theorem ownL_res {i : Nat} {t : Bool} {l : List PV} (h : ownL s i = some (t, l)) : ownL (resG ρ D s) i = some (t, resL ρ D l) := by
  unfold ownL at h
  split at h
  · rename_i e
    cases h
    unfold ownL
    rw [resG_at, e]
    rfl
  · cases h
theorem isOwnL_res {i : Nat} (h : isOwnL s i = true) : isOwnL (resG ρ D s) i = true := by
  unfold isOwnL at h
  split at h
  · rename_i e
    unfold isOwnL
    rw [resG_at, e]
    rfl
  · cases h
theorem argS_res {mp : List Nat} : ∀ {k : Nat} {rs : List RV} {as : Sg}, argSlots s mp k rs = some as → argSlots (resG ρ D s) mp k (rs.map (resR ρ D)) = some (resG ρ D as)
  | _, [], _, h => by cases h; rfl
  | k, r :: rs, as, h => by
    unfold argSlots at h
    split at h
    · cases h
    · rename_i l e
      rw [List.map_cons]
      unfold argSlots
      rw [argS_res e]
      cases r with
      | val x => cases h; rfl
      | frs x => cases h; rfl
      | bor i =>
        unfold resR
        dsimp only at h ⊢
        split at h
        · rename_i hm
          rw [if_pos hm]
          split at h
          · rename_i t x e2
            cases h
            rw [resG_at, e2]
            rfl
          · cases h
        · cases h
theorem bors_res : ∀ (rs : List RV), bors (rs.map (resR ρ D)) = bors rs
  | [] => rfl
  | r :: rs => by
    rw [List.map_cons]
    cases r with
    | val x => show bors (rs.map _) = bors rs; exact bors_res rs
    | frs x => show bors (rs.map _) = bors rs; exact bors_res rs
    | bor i => show i :: bors (rs.map _) = i :: bors rs; rw [bors_res rs]
theorem give_res : ∀ (rs : List RV) (as s : Sg), giveBack (rs.map (resR ρ D)) (resG ρ D as) (resG ρ D s) = resG ρ D (giveBack rs as s)
  | [], as, s => by unfold giveBack; rfl
  | r :: rs, [], s => by cases r <;> (unfold giveBack; rfl)
  | .val x :: rs, a :: as, s => by
    show giveBack (rs.map _) (resG ρ D as) (resG ρ D s) = resG ρ D (giveBack rs as s)
    exact give_res rs as s
  | .frs x :: rs, a :: as, s => by
    show giveBack (rs.map _) (resG ρ D as) (resG ρ D s) = resG ρ D (giveBack rs as s)
    exact give_res rs as s
  | .bor i :: rs, a :: as, s => by
    show giveBack (rs.map _) (resG ρ D as) ((resG ρ D s).set i (resS ρ D a)) = resG ρ D (giveBack rs as (s.set i a))
    rw [← resG_set]
    exact give_res rs as (s.set i a)
theorem outs_res {mp : List Nat} : ∀ (k : Nat) (as : Sg), outs mp (resG ρ D s) k (resG ρ D as) = resG ρ D (outs mp s k as)
  | k, [] => rfl
  | k, .pv x :: as => by
    show Slot.pv _ :: outs mp (resG ρ D s) (k + 1) (resG ρ D as) = Slot.pv _ :: resG ρ D (outs mp s (k + 1) as)
    rw [outs_res (k + 1) as]
  | k, .un :: as => by
    show Slot.un :: outs mp (resG ρ D s) (k + 1) (resG ρ D as) = Slot.un :: resG ρ D (outs mp s (k + 1) as)
    rw [outs_res (k + 1) as]
  | k, .lam _ :: as => by
    show Slot.un :: outs mp (resG ρ D s) (k + 1) (resG ρ D as) = Slot.un :: resG ρ D (outs mp s (k + 1) as)
    rw [outs_res (k + 1) as]
  | k, .own t x :: as => by
    show (if mp.contains k then noLam (((resG ρ D s)[k]?).getD .un) else .un) :: outs mp (resG ρ D s) (k + 1) (resG ρ D as) = resS ρ D (if mp.contains k then noLam ((s[k]?).getD .un) else .un) :: resG ρ D (outs mp s (k + 1) as)
    rw [outs_res (k + 1) as, resG_at]
    split
    · cases h : s[k]? with
      | none => rfl
      | some sl => cases sl <;> rfl
    · rfl
end
end Mp

/-! MpSi3: expressions. -/
namespace Mp
open PySem
section
variable {ρ : Nat → Nat} {D : Nat → PV}
theorem SimR.no {α : Type} {c : α → α} {b : Rs α} : SimR ρ D c .no b := True.intro
theorem SimR.bind {α β : Type} {c : α → α} {c2 : β → β} {a b : Rs α} {f g : α → Sg → Rs β} (h : SimR ρ D c a b) (k : ∀ r s, a = .ok r s → SimR ρ D c2 (f r s) (g (c r) (resG ρ D s))) : SimR ρ D c2 (a.bind f) (b.bind g) := by
  cases a with
  | ok r s => obtain rfl : b = .ok (c r) (resG ρ D s) := h; exact k r s rfl
  | er x s => obtain rfl : b = .er (resX ρ D x) (resG ρ D s) := h; exact rfl
  | no => exact .no
theorem ret_sim {s : Sg} {o o' : Option RV} (h : ∀ r, o = some r → o' = some (resR ρ D r)) : SimR ρ D (resR ρ D) (ret1 s o) (ret1 (resG ρ D s) o') := by
  cases o with
  | none => exact .no
  | some r => rw [h r rfl]; exact rfl
theorem simB {a b : Rs RV} (h : SimR ρ D (resR ρ D) a b) : SimR ρ D id (asB a) (asB b) := by
  unfold asB
  refine h.bind fun r s _ => ?_
  rw [deref_res]
  cases deref s r with
  | none => exact .no
  | some x =>
    dsimp only [Option.map_some]
    cases e : truV x with
    | none => exact .no
    | some b => rw [truV_res e]; exact rfl
theorem lc_sim {own : List Nat} {tg : Tg} {t t' : Sg → Rs Bool} {e e' : Sg → Rs RV} (ht : ∀ s, SimR ρ D id (t s) (t' (resG ρ D s))) (he : ∀ s, SimR ρ D (resR ρ D) (e s) (e' (resG ρ D s))) :
    ∀ (xs : List PV) (n : Nat) (acc : List PV) (s : Sg), SimR ρ D (resL ρ D) (lcGo own tg t e xs n acc s) (lcGo own tg t' e' (resL ρ D xs) n (resL ρ D acc) (resG ρ D s))
  | [], n, acc, s => by
    show Rs.ok (resL ρ D acc).reverse (resG ρ D s) = Rs.ok (resL ρ D acc.reverse) (resG ρ D s)
    rw [resL_eq, resL_eq, List.map_reverse]
  | x :: xs, n, acc, s => by
    unfold lcGo
    show SimR ρ D _ _ (match tg.store (res ρ D x) (wipeP (resG ρ D s) own) with
      | none => .no
      | some s1 => match t' s1 with
        | .ok false s2 => lcGo own tg t' e' (resL ρ D xs) n (resL ρ D acc) (backP (resG ρ D s) s2 own)
        | .ok true s2 => match e' s2 with
          | .ok r s3 => match valOf r with
            | some v => if n < line then lcGo own tg t' e' (resL ρ D xs) (n + 1) (v :: resL ρ D acc) (backP (resG ρ D s) s3 own) else .no
            | none => .no
          | _ => .no
        | _ => .no)
    cases e1 : tg.store x (wipeP s own) with
    | none => exact .no
    | some s1 =>
      have e1' := store_res (ρ := ρ) (D := D) tg x _ s1 e1
      rw [wipe_res] at e1'
      rw [e1']
      dsimp only
      have h1 := ht s1
      cases e2 : t s1 with
      | no => exact .no
      | er _ _ => exact .no
      | ok b s2 =>
        rw [e2] at h1
        rw [show t' (resG ρ D s1) = .ok b (resG ρ D s2) from h1]
        cases b with
        | false =>
          dsimp only
          rw [← back_res]
          exact lc_sim ht he xs n acc _
        | true =>
          dsimp only
          have h2 := he s2
          cases e3 : e s2 with
          | no => exact .no
          | er _ _ => exact .no
          | ok r s3 =>
            rw [e3] at h2
            rw [show e' (resG ρ D s2) = .ok (resR ρ D r) (resG ρ D s3) from h2]
            dsimp only
            cases ev : valOf r with
            | none => exact .no
            | some v =>
              rw [valOf_res ev]
              dsimp only
              split
              · rw [← back_res]
                exact lc_sim ht he xs (n + 1) (v :: acc) _
              · exact .no
theorem dkOk_res {ks : List PV} {x : PV} (h : dkOk ks x = true) : resL ρ D ks = ks ∧ res ρ D x = x := by
  unfold dkOk at h
  split at h
  · rename_i l k h1 h2
    exact ⟨keys_res h1, key_res h2⟩
  · cases h
theorem dc_sim {own : List Nat} {tg : Tg} {t t' : Sg → Rs Bool} {ke ke' ve ve' : Sg → Rs RV} (ht : ∀ s, SimR ρ D id (t s) (t' (resG ρ D s))) (hk : ∀ s, SimR ρ D (resR ρ D) (ke s) (ke' (resG ρ D s))) (he : ∀ s, SimR ρ D (resR ρ D) (ve s) (ve' (resG ρ D s))) :
    ∀ (xs ks vs : List PV) (s : Sg), SimR ρ D (res ρ D) (dcGo own tg t ke ve xs ks vs s) (dcGo own tg t' ke' ve' (resL ρ D xs) ks (resL ρ D vs) (resG ρ D s))
  | [], ks, vs, s => rfl
  | x :: xs, ks, vs, s => by
    unfold dcGo
    show SimR ρ D _ _ (match tg.store (res ρ D x) (wipeP (resG ρ D s) own) with
      | none => .no
      | some s1 => match t' s1 with
        | .ok false s2 => dcGo own tg t' ke' ve' (resL ρ D xs) ks (resL ρ D vs) (backP (resG ρ D s) s2 own)
        | .ok true s2 => match ke' s2 with
          | .ok (.val kx) s3 => match ve' s3 with
            | .ok r s4 => match valOf r with
              | some v => if dkOk ks kx = true then dcGo own tg t' ke' ve' (resL ρ D xs) (ks ++ [kx]) (resL ρ D vs ++ [v]) (backP (resG ρ D s) s4 own) else .no
              | none => .no
            | _ => .no
          | _ => .no
        | _ => .no)
    cases e1 : tg.store x (wipeP s own) with
    | none => exact .no
    | some s1 =>
      have e1' := store_res (ρ := ρ) (D := D) tg x _ s1 e1
      rw [wipe_res] at e1'
      rw [e1']
      dsimp only
      have h1 := ht s1
      cases e2 : t s1 with
      | no => exact .no
      | er _ _ => exact .no
      | ok b s2 =>
        rw [e2] at h1
        rw [show t' (resG ρ D s1) = .ok b (resG ρ D s2) from h1]
        cases b with
        | false =>
          dsimp only
          rw [← back_res]
          exact dc_sim ht hk he xs ks vs _
        | true =>
          dsimp only
          have h2 := hk s2
          cases e3 : ke s2 with
          | no => exact .no
          | er _ _ => exact .no
          | ok r s3 =>
            rw [e3] at h2
            rw [show ke' (resG ρ D s2) = .ok (resR ρ D r) (resG ρ D s3) from h2]
            cases r with
            | frs _ => exact .no
            | bor _ => exact .no
            | val kx =>
            show SimR ρ D _ _ (match ve' (resG ρ D s3) with
              | .ok r s4 => match valOf r with
                | some v => if dkOk ks (res ρ D kx) = true then dcGo own tg t' ke' ve' (resL ρ D xs) (ks ++ [res ρ D kx]) (resL ρ D vs ++ [v]) (backP (resG ρ D s) s4 own) else .no
                | none => .no
              | _ => .no)
            dsimp only
            have h3 := he s3
            cases e4 : ve s3 with
            | no => exact .no
            | er _ _ => exact .no
            | ok r s4 =>
              rw [e4] at h3
              rw [show ve' (resG ρ D s3) = .ok (resR ρ D r) (resG ρ D s4) from h3]
              dsimp only
              cases ev : valOf r with
              | none => exact .no
              | some v =>
                rw [valOf_res ev]
                dsimp only
                split
                · rename_i hd
                  rw [(dkOk_res (ρ := ρ) (D := D) hd).2, if_pos hd, ← back_res]
                  have := dc_sim (own := own) (tg := tg) ht hk he xs (ks ++ [kx]) (vs ++ [v]) (backP s s4 own)
                  have ea : resL ρ D (vs ++ [v]) = resL ρ D vs ++ [res ρ D v] := by rw [resL_eq, resL_eq, List.map_append]; rfl
                  rw [ea] at this
                  exact this
                · exact .no
theorem allSome_at {α : Type} : ∀ {l : List (Option α)} {xs : List α}, allSome l = some xs → l = xs.map some
  | [], _, h => by cases h; rfl
  | none :: _, _, h => by cases h
  | some x :: l, xs, h => by
    unfold allSome at h
    split at h
    · rename_i ys e
      cases h
      rw [allSome_at e]
      rfl
    · cases h
theorem sp_sim {f f' : Sg → Rs RV} (hf : ∀ s, SimR ρ D (resR ρ D) (f s) (f' (resG ρ D s))) {ns : List Nat} (hr : ∀ k n, ns[k]? = some n → ρ k < n) :
    ∀ (ks : List Nat) (s : Sg) (v : PV), spGo ns f ks s = some v → ∃ r s', f' (resG ρ D s) = .ok r s' ∧ valOf r = some (res ρ D v)
  | [], s, v, h => by
    unfold spGo at h
    have h1 := hf s
    split at h
    · rename_i r s1 e
      rw [e] at h1
      exact ⟨_, _, h1, valOf_res h⟩
    · cases h
  | k :: ks, s, v, h => by
    unfold spGo at h
    have h1 := hf s
    split at h
    · rename_i r s1 e
      rw [e] at h1
      exact ⟨_, _, h1, valOf_res h⟩
    · cases h
    · split at h
      · rename_i xs e
        have e2 := allSome_at e
        have hl : xs.length = ns.getD k 0 := by
          have := congrArg List.length e2
          simpa using this.symm
        cases hn : ns[k]? with
        | none =>
          rw [List.getD_eq_getElem?_getD, hn] at hl
          have : xs = [] := List.length_eq_zero_iff.mp hl
          subst this
          cases h
        | some n =>
          have hlt := hr k n hn
          rw [List.getD_eq_getElem?_getD, hn] at hl
          have hl' : xs.length = n := hl
          have e3 : xs[ρ k]? = some (PV.pick (ρ k) xs) := pick_at (by omega)
          have e4 : spGo ns f ks (subS k (ρ k) s) = some (PV.pick (ρ k) xs) := by
            have q := congrArg (fun l => l[ρ k]?) e2
            rw [List.getElem?_map, List.getElem?_map, e3, List.getElem?_range (by rw [List.getD_eq_getElem?_getD, hn]; exact hlt)] at q
            simpa using q
          obtain ⟨r, s', q1, q2⟩ := sp_sim hf hr ks _ _ e4
          rw [resG_sub] at q1
          refine ⟨r, s', q1, ?_⟩
          rw [q2]
          congr 1
          cases xs with
          | nil => cases h
          | cons x xs =>
            have h' : (if xs.all (x.beq ·) then some x else some (.cas k (x :: xs))) = some v := h
            by_cases hall : xs.all (x.beq ·) = true
            · rw [if_pos hall] at h'
              have hv := Option.some.inj h'
              have hm := List.mem_of_getElem? e3
              rcases List.mem_cons.mp hm with q | q
              · rw [q, hv]
              · rw [← beq_eq _ _ (List.all_eq_true.mp hall _ q), hv]
            · rw [if_neg hall] at h'
              rw [← Option.some.inj h', res_pick]
              rfl
      · cases h
theorem hd_res {x : Xc} : ∀ {hs : List Hd} {v : PV}, hdGo x hs = some v → hdGo (resX ρ D x) hs = some (res ρ D v)
  | [], v, h => by cases h
  | h0 :: hs, v, h => by
    unfold hdGo at h ⊢
    show (if x.c = h0.c then _ else _) = _
    split at h
    · rename_i hc
      rw [if_pos hc]
      split at h
      · rename_i hf
        cases h
        rfl
      · rename_i f hf
        have lk : ∀ (fs : List (Str × PV)), (fs.map fun q => (q.1, res ρ D q.2)).lookup f = (fs.lookup f).map (res ρ D) := fun fs => by
          induction fs with
          | nil => rfl
          | cons q fs ih =>
            obtain ⟨y, z⟩ := q
            rw [List.map_cons, List.lookup_cons, List.lookup_cons]
            cases f == y with
            | true => rfl
            | false => exact ih
        show (match (x.fs.map fun q => (q.1, res ρ D q.2)).lookup f with
          | some v => (match biV .repr [v] with
            | some (.val (.str t)) => if h0.s.length + t.length ≤ line then some (PV.str (h0.s ++ t)) else none
            | _ => none)
          | none => none) = _
        rw [lk]
        split at h
        · rename_i w hw
          rw [hw]
          dsimp only [Option.map_some]
          split at h
          · rename_i t ht
            rw [repr_res ht, ht]
            dsimp only
            split at h
            · rename_i hl
              cases h
              rw [if_pos hl]
              rfl
            · cases h
          · cases h
        · cases h
    · rename_i hc
      rw [if_neg hc]
      exact hd_res h
theorem runW_res {w : Wd} {a b : Rs RV} {v : PV} (hs : SimR ρ D (resR ρ D) a b) (h : runW w a = some v) : runW w b = some (res ρ D v) := by
  unfold runW at h
  split at h
  · rename_i r s
    cases h
    obtain rfl : b = .ok (resR ρ D r) (resG ρ D s) := hs
    rfl
  · rename_i x s
    obtain rfl : b = .er (resX ρ D x) (resG ρ D s) := hs
    exact hd_res h
  · cases h
end
end Mp

/-! MpSi4: the interpreter. -/
namespace Mp
open PySem
section
variable {ρ : Nat → Nat} {D : Nat → PV} {cA cB : Cl} {tA tB : Nat → Option Fd}
structure SimEnv (ρ : Nat → Nat) (D : Nat → PV) (cA cB : Cl) (tA tB : Nat → Option Fd) : Prop where
  cl : ∀ g as, SimR ρ D (resR ρ D) (cA g as) (cB g (resG ρ D as))
  tb : ∀ g d, tA g = some d → (tB g = some d ∧ PV.nodL d.dfl = true) ∨ (d.wd = none ∧ ∀ as, cA g as = .no)
  ab : isAbs tB = false
  aa : isAbs tA = true
  rh : ∀ k n, (nsOf tA)[k]? = some n → ρ k < n
theorem nodL_drop : ∀ (l : List PV) (n : Nat), PV.nodL l = true → PV.nodL (l.drop n) = true
  | l, 0, h => h
  | [], n + 1, h => h
  | x :: l, n + 1, h => by
    unfold PV.nodL at h
    rw [Bool.and_eq_true] at h
    exact nodL_drop l n h.2
theorem call_sim (E : SimEnv ρ D cA cB tA tB) (g : Nat) (rs : List RV) (s : Sg) : SimR ρ D (resR ρ D) (callG cA tA g rs s) (callG cB tB g (rs.map (resR ρ D)) (resG ρ D s)) := by
  unfold callG
  cases e : tA g with
  | none => exact .no
  | some d =>
    dsimp only
    rcases E.tb g d e with ⟨e1, e2⟩ | ⟨_, e2⟩
    · rw [e1]
      dsimp only
      rw [List.length_map, bors_res]
      by_cases hc : rs.length ≤ d.np ∧ d.np ≤ rs.length + d.dfl.length ∧ (bors rs).Nodup
      · rw [if_pos hc, if_pos hc]
        cases ea : argSlots s d.mp 0 rs with
        | none => exact .no
        | some as =>
          rw [argS_res ea]
          dsimp only
          have h1 := E.cl g (as ++ (d.dfl.drop (rs.length + d.dfl.length - d.np)).map Slot.pv)
          have e3 : resG ρ D (as ++ (d.dfl.drop (rs.length + d.dfl.length - d.np)).map Slot.pv) = resG ρ D as ++ (d.dfl.drop (rs.length + d.dfl.length - d.np)).map Slot.pv := by
            rw [resG_app]
            congr 1
            have q := resL_nod (ρ := ρ) (D := D) _ (nodL_drop d.dfl (rs.length + d.dfl.length - d.np) e2)
            rw [resL_eq] at q
            unfold resG
            rw [List.map_map]
            conv => rhs; rw [← q, List.map_map]
            rfl
          rw [e3] at h1
          cases ec : cA g (as ++ (d.dfl.drop (rs.length + d.dfl.length - d.np)).map Slot.pv) with
          | no => exact .no
          | er x as' =>
            rw [ec] at h1
            rw [show cB g _ = .er (resX ρ D x) (resG ρ D as') from h1]
            show Rs.er _ _ = Rs.er _ _
            rw [give_res]
          | ok r as' =>
            rw [ec] at h1
            rw [show cB g _ = .ok (resR ρ D r) (resG ρ D as') from h1]
            dsimp only
            cases r with
            | val x =>
              show Rs.ok _ _ = Rs.ok _ _
              rw [give_res]
            | frs x =>
              show Rs.ok _ _ = Rs.ok _ _
              rw [give_res]
            | bor i => exact .no
      · rw [if_neg hc]; exact .no
    · split
      · split
        · exact .no
        · rw [e2]; exact .no
      · exact .no
/-! ### instances, sorted by key, lists of lambdas -/
theorem fldV_res {c i : Nat} {x v : PV} (h : fldV c i x = some v) : fldV c i (res ρ D x) = some (res ρ D v) := by
  cases x <;> first | (cases h; done) | skip
  rename_i c' xs
  show (if c' = c then (resL ρ D xs)[i]? else none) = _
  have h' : (if c' = c then xs[i]? else none) = some v := h
  split at h'
  · rename_i hc
    rw [if_pos hc, resL_eq, List.getElem?_map, h']
    rfl
  · cases h'
theorem isCV_res {c : Nat} {x : PV} {b : Bool} (h : isCV c x = some b) : isCV c (res ρ D x) = some b := by
  cases x <;> first | (cases h; done) | exact h
theorem mk_sim (E : SimEnv ρ D cA cB tA tB) (c g : Nat) (rs : List RV) (s : Sg) : SimR ρ D (resR ρ D) (mkG cA tA c g rs s) (mkG cB tB c g (rs.map (resR ρ D)) (resG ρ D s)) := by
  unfold mkG
  cases e : tA g with
  | none => exact .no
  | some d =>
    dsimp only
    rcases E.tb g d e with ⟨e1, _⟩ | ⟨_, e2⟩
    · rw [e1]
      dsimp only
      rw [List.length_map]
      by_cases hc : rs.length + 1 = d.np ∧ d.mp = [0]
      · rw [if_pos hc, if_pos hc]
        cases ea : argSlots s [] 1 rs with
        | none => exact .no
        | some as =>
          rw [argS_res ea]
          dsimp only
          have h1 := E.cl g (.own false (.ins c []) :: as)
          have e3 : resG ρ D (.own false (.ins c []) :: as) = .own false (.ins c []) :: resG ρ D as := rfl
          rw [e3] at h1
          cases ec : cA g (.own false (.ins c []) :: as) with
          | no => exact .no
          | er x as' =>
            rw [ec] at h1
            rw [show cB g _ = .er (resX ρ D x) (resG ρ D as') from h1]
            exact rfl
          | ok r as' =>
            rw [ec] at h1
            rw [show cB g _ = .ok (resR ρ D r) (resG ρ D as') from h1]
            split
            · rename_i t c' xs tl hq
              cases hq
              show SimR ρ D _ (if c' = c then _ else _) (if c' = c then _ else _)
              split
              · exact rfl
              · exact .no
            · rename_i hq; cases hq
            · exact .no
      · rw [if_neg hc]; exact .no
    · split
      · split
        · exact .no
        · rw [e2]; exact .no
      · exact .no
theorem keysG_res (E : SimEnv ρ D cA cB tA tB) (g : Nat) (s : Sg) : ∀ {l : List PV} {is : List Int}, keysG cA tA g l s = some is → keysG cB tB g (resL ρ D l) (resG ρ D s) = some is
  | [], is, h => h
  | x :: l, is, h => by
    unfold keysG at h
    show keysG cB tB g (res ρ D x :: resL ρ D l) (resG ρ D s) = some is
    unfold keysG
    have q := call_sim E g [.val x] s
    split at h
    · rename_i i s1 e
      rw [e] at q
      rw [show callG cB tB g [.val (res ρ D x)] (resG ρ D s) = .ok (.val (.int i)) (resG ρ D s1) from q]
      dsimp only
      split at h
      · rename_i js e2
        rw [keysG_res E g s e2]
        exact h
      · cases h
    · cases h
theorem insK_map (f : PV → PV) (x : PV × Int) : ∀ l : List (PV × Int), insK (f x.1, x.2) (l.map fun p => (f p.1, p.2)) = (insK x l).map fun p => (f p.1, p.2)
  | [] => rfl
  | y :: r => by
    have e1 : insK x (y :: r) = if x.2 ≤ y.2 then x :: y :: r else y :: insK x r := rfl
    show (if x.2 ≤ y.2 then (f x.1, x.2) :: (f y.1, y.2) :: r.map (fun p => (f p.1, p.2)) else (f y.1, y.2) :: insK (f x.1, x.2) (r.map fun p => (f p.1, p.2))) = _
    rw [e1, insK_map f x r]
    split <;> rfl
theorem isortK_map (f : PV → PV) : ∀ l : List (PV × Int), isortK (l.map fun p => (f p.1, p.2)) = (isortK l).map fun p => (f p.1, p.2)
  | [] => rfl
  | x :: r => by
    show insK (f x.1, x.2) (isortK (r.map fun p => (f p.1, p.2))) = (insK x (isortK r)).map _
    rw [isortK_map f r, insK_map]
theorem ascK_map (f : PV → PV) : ∀ l : List (PV × Int), ascK (l.map fun p => (f p.1, p.2)) = ascK l
  | [] => rfl
  | [_] => rfl
  | x :: y :: r => by
    show (decide (x.2 < y.2) && ascK ((y :: r).map fun p => (f p.1, p.2))) = _
    rw [ascK_map f (y :: r)]
    rfl
theorem zip_map1 (f : PV → PV) : ∀ (l : List PV) (is : List Int), (l.map f).zip is = (l.zip is).map fun p => (f p.1, p.2)
  | [], _ => rfl
  | _ :: _, [] => rfl
  | x :: l, i :: is => by
    show (f x, i) :: (l.map f).zip is = (f x, i) :: _
    rw [zip_map1 f l is]
    rfl
theorem srtK_res {l ys : List PV} {is : List Int} (h : srtK l is = some ys) : srtK (resL ρ D l) is = some (resL ρ D ys) := by
  unfold srtK at h ⊢
  rw [resL_len, resL_eq, zip_map1, isortK_map, ascK_map]
  split at h
  · rename_i hc
    cases h
    rw [if_pos hc, resL_eq, List.map_map, List.map_map]
    rfl
  · cases h
theorem seqOf_res {x : PV} {m : List PV} (h : seqOf x = some m) : seqOf (res ρ D x) = some (resL ρ D m) := by
  cases x <;> first | (cases h; done) | (cases h; rfl)
theorem isLstV_res {o : Option PV} (h : isLstV o = true) : isLstV (o.map (res ρ D)) = true := by
  cases o with
  | none => cases h
  | some x => cases x <;> first | (cases h; done) | rfl
theorem indG_res {a b : Option PV} {n : Nat} (h : indG a b = some n) : indG (a.map (res ρ D)) (b.map (res ρ D)) = some n := by
  unfold indG at h
  split at h
  · rename_i l v
    split at h
    · rename_i hc
      have hc' := hc
      rw [Bool.and_eq_true] at hc
      show indG (some (.lst (resL ρ D l))) (some (res ρ D v)) = some n
      rw [resL_dat hc.2, res_dat hc.1]
      unfold indG
      dsimp only
      rw [if_pos hc']
      exact h
    · cases h
  · cases h
theorem fnAt_res {s : Sg} {i g : Nat} (h : fnAt s i = some g) : fnAt (resG ρ D s) i = some g := by
  unfold fnAt at h ⊢
  split at h
  · rename_i e
    rw [resG_at, e]
    exact h
  · cases h
theorem lamsAt_res {s : Sg} {i : Nat} {hs : List Nat} (h : lamsAt s i = some hs) : lamsAt (resG ρ D s) i = some hs := by
  unfold lamsAt at h ⊢
  split at h
  · rename_i e
    rw [resG_at, e]
    exact h
  · cases h
theorem ro_ro (s : Sg) : ro (ro s) = ro s := by
  unfold ro
  rw [List.map_map]
  refine List.map_congr_left fun x _ => ?_
  cases x <;> rfl
theorem wordG_sim (E : SimEnv ρ D cA cB tA tB) (w : Wd) (h : Nat) (s : Sg) : SimR ρ D (resR ρ D) (wordG w cA h s) (wordG w cB h (resG ρ D s)) := by
  unfold wordG
  cases e : runW w (cA h (ro s)) with
  | none => exact .no
  | some v =>
    have q := E.cl h (ro s)
    rw [resG_ro] at q
    rw [runW_res q e]
    exact rfl
theorem wordsG_res (E : SimEnv ρ D cA cB tA tB) (w : Wd) : ∀ {hs : List Nat} {ks : List (List Nat)} {s : Sg} {l : List PV}, wordsG tA w cA hs ks s = some l → wordsG tB w cB hs ks (resG ρ D s) = some (resL ρ D l)
  | [], _, _, _, e => by unfold wordsG at e; cases e; unfold wordsG; rfl
  | h0 :: hs, ks, s, l, e => by
    unfold wordsG at e ⊢
    split at e
    · rename_i v vs e1 e2
      cases e
      rw [wordsG_res E w e2]
      have e3 : word1 tB w cB h0 (ks.headD []) (resG ρ D s) = some (res ρ D v) := by
        unfold word1 at e1 ⊢
        rw [if_pos E.aa] at e1
        rw [E.ab]
        obtain ⟨r, s', q1, q2⟩ := sp_sim (wordG_sim E w h0) E.rh _ _ _ e1
        rw [resG_ro] at q1
        unfold wordG at q1
        rw [ro_ro] at q1
        split at q1
        · rename_i u hu
          cases q1
          cases q2
          exact hu
        · cases q1
      rw [e3]
      rfl
    · cases e
mutual
theorem simE (E : SimEnv ρ D cA cB tA tB) : ∀ (c : CE) (s : Sg), SimR ρ D (resR ρ D) (evE cA tA c s) (evE cB tB c (resG ρ D s))
  | .var i, s => by
    simp only [evE]
    rw [resG_at]
    cases h : s[i]? with
    | none => exact .no
    | some sl =>
      cases sl with
      | un => exact .no
      | lam _ => exact .no
      | pv x => exact rfl
      | own t x =>
        show SimR ρ D _ (if x.mut then Rs.no else Rs.ok (RV.val x) (s.set i (.pv x))) (if (res ρ D x).mut then Rs.no else Rs.ok (RV.val (res ρ D x)) ((resG ρ D s).set i (.pv (res ρ D x))))
        cases hm : x.mut with
        | true => exact .no
        | false =>
          rw [mut_res hm]
          show Rs.ok _ _ = Rs.ok _ _
          rw [resG_set]
          rfl
  | .bor i, s => by
    simp only [evE]
    rw [resG_at]
    cases h : s[i]? with
    | none => exact .no
    | some sl =>
      cases sl with
      | un => exact .no
      | lam _ => exact .no
      | pv x => exact rfl
      | own t x => exact rfl
  | .cst v, s => by
    simp only [evE]
    rw [E.ab, E.aa, Bool.and_true, Bool.and_false]
    cases h : v.nod with
    | false => exact .no
    | true =>
      show Rs.ok (RV.val v) _ = Rs.ok (RV.val (res ρ D v)) _
      rw [res_nod v h]
  | .bin op a b, s => by
    simp only [evE]
    refine SimR.bind (simE E a s) fun x s1 _ => SimR.bind (simE E b s1) fun y s2 _ => ?_
    rw [deref_res, deref_res]
    cases deref s2 x with
    | none => exact .no
    | some u =>
      cases deref s2 y with
      | none => exact .no
      | some v => exact ret_sim fun r h => binV_res h
  | .neg a, s => by
    simp only [evE]
    refine SimR.bind (simE E a s) fun x s1 _ => ?_
    cases h : x.int? with
    | none => exact .no
    | some i => rw [int_res h]; exact rfl
  | .not a, s => by
    simp only [evE]
    exact SimR.bind (simB (simE E a s)) fun x s1 _ => rfl
  | .and a b, s => by
    simp only [evE]
    refine SimR.bind (simE E a s) fun x s1 _ => ?_
    cases h : x.bl? with
    | none => exact .no
    | some i =>
      rw [bl_res h]
      cases i with
      | true => exact simE E b s1
      | false => exact rfl
  | .or a b, s => by
    simp only [evE]
    refine SimR.bind (simE E a s) fun x s1 _ => ?_
    cases h : x.bl? with
    | none => exact .no
    | some i =>
      rw [bl_res h]
      cases i with
      | false => exact simE E b s1
      | true => exact rfl
  | .andT a b, s => by
    simp only [evE]
    refine SimR.bind (simB (simE E a s)) fun x s1 _ => ?_
    cases x with
    | true => exact SimR.bind (simB (simE E b s1)) fun y s2 _ => rfl
    | false => exact rfl
  | .orT a b, s => by
    simp only [evE]
    refine SimR.bind (simB (simE E a s)) fun x s1 _ => ?_
    cases x with
    | false => exact SimR.bind (simB (simE E b s1)) fun y s2 _ => rfl
    | true => exact rfl
  | .notT a, s => by
    simp only [evE]
    exact SimR.bind (simB (simE E a s)) fun x s1 _ => rfl
  | .tru a, s => by
    simp only [evE]
    exact simE E a s
  | .cmp op a b, s => by
    simp only [evE]
    refine SimR.bind (simE E a s) fun x s1 _ => SimR.bind (simE E b s1) fun y s2 _ => ?_
    rw [deref_res, deref_res]
    cases deref s2 x with
    | none => exact .no
    | some u =>
      cases deref s2 y with
      | none => exact .no
      | some v =>
        dsimp only [Option.map_some]
        cases h : cmpV op u v with
        | none => exact .no
        | some c => rw [cmpV_res h]; exact rfl
  | .chn o p a b c, s => by
    simp only [evE]
    refine SimR.bind (simE E a s) fun x s1 _ => SimR.bind (simE E b s1) fun y s2 _ => ?_
    cases hx : x.val? with
    | none => exact .no
    | some u =>
      rw [val_res hx]
      cases hy : y.val? with
      | none => exact .no
      | some v =>
        rw [val_res hy]
        dsimp only
        cases h : cmpV o u v with
        | none => exact .no
        | some d =>
          rw [cmpV_res h]
          cases d with
          | false => exact rfl
          | true =>
            refine SimR.bind (simE E c s2) fun z s3 _ => ?_
            cases hz : z.val? with
            | none => exact .no
            | some w =>
              rw [val_res hz]
              dsimp only
              cases h2 : cmpV p v w with
              | none => exact .no
              | some d2 => rw [cmpV_res h2]; exact rfl
  | .ife t a b, s => by
    simp only [evE]
    refine SimR.bind (simB (simE E t s)) fun x s1 _ => ?_
    cases x with
    | true => exact simE E a s1
    | false => exact simE E b s1
  | .tup es, s => by
    simp only [evE]
    refine SimR.bind (simEs E es s) fun rs s1 _ => ?_
    cases evs : valsOf rs with
    | none => exact .no
    | some l =>
      rw [valsOf_res evs]
      dsimp only
      rw [resL_len]
      split
      · exact rfl
      · exact .no
  | .lst es, s => by
    simp only [evE]
    refine SimR.bind (simEs E es s) fun rs s1 _ => ?_
    cases evs : valsOf rs with
    | none => exact .no
    | some l =>
      rw [valsOf_res evs]
      dsimp only
      rw [resL_len]
      split
      · exact rfl
      · exact .no
  | .sub a b, s => by
    simp only [evE]
    refine SimR.bind (simE E a s) fun x s1 _ => SimR.bind (simE E b s1) fun y s2 _ => ?_
    rw [deref_res, deref_res]
    cases deref s2 x with
    | none => exact .no
    | some u =>
      cases deref s2 y with
      | none => exact .no
      | some v =>
        dsimp only [Option.map_some]
        cases h : subV u v with
        | none => exact .no
        | some w => rw [subV_res h]; exact rfl
  | .slc a lo hi, s => by
    simp only [evE]
    refine SimR.bind (simE E a s) fun x s1 _ => SimR.bind (simO E lo s1) fun l s2 _ => SimR.bind (simO E hi s2) fun h s3 _ => ?_
    rw [deref_res]
    cases deref s3 x with
    | none => exact .no
    | some u => exact ret_sim fun r h => slcV_res h
  | .cal g es, s => by
    simp only [evE]
    exact SimR.bind (simEs E es s) fun rs s1 _ => call_sim E g rs s1
  | .bui b es, s => by
    simp only [evE]
    refine SimR.bind (simEs E es s) fun rs s1 _ => ?_
    rw [derefs_res]
    cases derefs s1 rs with
    | none => exact .no
    | some l => exact ret_sim fun r h => biV_res h
  | .rev a, s => by
    simp only [evE]
    refine SimR.bind (simE E a s) fun x s1 _ => ?_
    rw [deref_res]
    cases deref s1 x with
    | none => exact .no
    | some u =>
      cases u <;> first | exact .no | skip
      rename_i l
      show Rs.ok (RV.frs (.lst (resL ρ D l).reverse)) _ = Rs.ok (RV.frs (.lst (resL ρ D l.reverse))) _
      rw [resL_eq, resL_eq, List.map_reverse]
  | .ded, s => by simp only [evE]; exact .no
  | .spl ks a, s => by
    simp only [evE]
    rw [E.ab, E.aa, if_pos rfl, if_neg Bool.false_ne_true]
    cases h : spGo (nsOf tA) (evE cA tA a) ks (ro s) with
    | none => exact .no
    | some v =>
      obtain ⟨r, s', q1, q2⟩ := sp_sim (f := evE cA tA a) (f' := evE cB tB a) (fun s => simE E a s) E.rh ks (ro s) v h
      rw [resG_ro] at q1
      rw [q1]
      dsimp only
      rw [q2]
      exact rfl
  | .lamc g a, s => by
    simp only [evE]
    cases e : tA g with
    | none => exact .no
    | some d =>
      dsimp only
      cases hw : d.wd with
      | none => exact .no
      | some w =>
        rcases E.tb g d e with ⟨e1, _⟩ | ⟨e1, _⟩
        · rw [e1]
          dsimp only
          rw [hw]
          dsimp only
          cases h : runW w (evE cA tA a (ro s)) with
          | none => exact .no
          | some v =>
            have q := simE E a (ro s)
            rw [resG_ro] at q
            rw [runW_res q h]
            exact rfl
        · rw [hw] at e1; cases e1
  | .dct kvs, s => by
    simp only [evE]
    refine SimR.bind (simEs E kvs s) fun rs s1 _ => ?_
    cases evs : valsOf rs with
    | none => exact .no
    | some l =>
      rw [valsOf_res evs]
      dsimp only
      cases h : dctV l with
      | none => exact .no
      | some x => rw [dctV_res h]; exact rfl
  | .fst es, s => by
    simp only [evE]
    have q := simEs E es s
    cases e : evEs cA tA es s with
    | no => exact .no
    | er _ _ => exact .no
    | ok rs s1 =>
      rw [e] at q
      rw [show evEs cB tB es (resG ρ D s) = .ok (rs.map (resR ρ D)) (resG ρ D s1) from q]
      dsimp only
      cases evs : valsOf rs with
      | none => exact .no
      | some l =>
        rw [valsOf_res evs]
        dsimp only
        cases h : catS l with
        | none => exact .no
        | some t => rw [catS_res h]; exact rfl
  | .fmt r a, s => by
    simp only [evE]
    refine SimR.bind (simE E a s) fun x s1 _ => ?_
    rw [deref_res]
    cases deref s1 x with
    | none => exact .no
    | some u =>
      dsimp only [Option.map_some]
      cases h : fmtV r u with
      | none => exact .no
      | some v => rw [fmtV_res h]; exact rfl
  | .fz a, s => by
    simp only [evE]
    refine SimR.bind (simE E a s) fun x s1 _ => ?_
    unfold fzV
    split
    · exact rfl
    · rename_i i _
      show SimR ρ D _ _ (match (resG ρ D s1)[i]? with
        | some (Slot.own _ (PV.dct ks vs)) => Rs.ok (RV.val (.dct ks vs)) ((resG ρ D s1).set i (.pv (.dct ks vs)))
        | _ => Rs.no)
      rw [resG_at]
      split
      · rename_i e
        rw [e]
        show Rs.ok _ _ = Rs.ok _ _
        rw [resG_set]
        rfl
      · exact .no
    · exact .no
  | .lc own tg k src ifs e, s => by
    simp only [evE]
    refine SimR.bind (simEs E src s) fun rs s1 _ => ?_
    cases evs : valsOf rs with
    | none => exact .no
    | some l =>
      rw [valsOf_res evs]
      dsimp only
      cases h : itV k l with
      | none => exact .no
      | some xs =>
        rw [itV_res h]
        exact SimR.bind (lc_sim (fun s => simT E ifs s) (fun s => simE E e s) xs 0 [] s1) fun ys s2 _ => rfl
  | .dcp own tg k src ifs ke ve, s => by
    simp only [evE]
    refine SimR.bind (simEs E src s) fun rs s1 _ => ?_
    cases evs : valsOf rs with
    | none => exact .no
    | some l =>
      rw [valsOf_res evs]
      dsimp only
      cases h : itV k l with
      | none => exact .no
      | some xs =>
        rw [itV_res h]
        exact SimR.bind (dc_sim (fun s => simT E ifs s) (fun s => simE E ke s) (fun s => simE E ve s) xs [] [] s1) fun ys s2 _ => rfl
  | .fld c i a, s => by
    simp only [evE]
    refine SimR.bind (simE E a s) fun r s1 _ => ?_
    rw [deref_res]
    cases deref s1 r with
    | none => exact .no
    | some x =>
      dsimp only [Option.map_some]
      cases h : fldV c i x with
      | none => exact .no
      | some v => rw [fldV_res h]; exact rfl
  | .isC c a, s => by
    simp only [evE]
    refine SimR.bind (simE E a s) fun r s1 _ => ?_
    rw [deref_res]
    cases deref s1 r with
    | none => exact .no
    | some x =>
      dsimp only [Option.map_some]
      cases h : isCV c x with
      | none => exact .no
      | some v => rw [isCV_res h]; exact rfl
  | .mk c g es, s => by
    simp only [evE]
    exact SimR.bind (simEs E es s) fun rs s1 _ => mk_sim E c g rs s1
  | .srk g a, s => by
    simp only [evE]
    refine SimR.bind (simE E a s) fun r s1 _ => ?_
    rw [deref_res]
    cases deref s1 r with
    | none => exact .no
    | some x =>
      cases x <;> first | exact .no | skip
      rename_i l
      show SimR ρ D _ (match keysG cA tA g l (ro s1) with
        | some is => match srtK l is with
          | some ys => Rs.ok (RV.frs (PV.lst ys)) s1
          | none => .no
        | none => .no) (match keysG cB tB g (resL ρ D l) (ro (resG ρ D s1)) with
        | some is => match srtK (resL ρ D l) is with
          | some ys => Rs.ok (RV.frs (PV.lst ys)) (resG ρ D s1)
          | none => .no
        | none => .no)
      cases h : keysG cA tA g l (ro s1) with
      | none => exact .no
      | some is =>
        have q := keysG_res E g _ h
        rw [resG_ro] at q
        rw [q]
        dsimp only
        cases h2 : srtK l is with
        | none => exact .no
        | some ys => rw [srtK_res h2]; exact rfl
  | .lsx es a, s => by
    simp only [evE]
    refine SimR.bind (simLx E es _ _ (fun s => simE E a s) s) fun l s1 _ => ?_
    rw [resL_len]
    split
    · exact rfl
    · exact .no
  | .ind a b, s => by
    simp only [evE]
    refine SimR.bind (simE E a s) fun x s1 _ => ?_
    rw [deref_res]
    cases h : isLstV (deref s1 x) with
    | false => exact .no
    | true =>
      rw [isLstV_res h]
      refine SimR.bind (simE E b s1) fun y s2 _ => ?_
      rw [deref_res, deref_res]
      cases h2 : indG (deref s2 x) (deref s2 y) with
      | none => exact .no
      | some n => rw [indG_res h2]; exact rfl
  | .cav i es, s => by
    simp only [evE]
    cases h : fnAt s i with
    | none => exact .no
    | some g =>
      rw [fnAt_res h]
      exact SimR.bind (simEs E es s) fun rs s1 _ => call_sim E g rs s1
  | .lcw g i j ks, s => by
    simp only [evE]
    cases h : lamsAt s i with
    | none => exact .no
    | some hs =>
      rw [lamsAt_res h]
      cases e : tA g with
      | none => exact .no
      | some d =>
        dsimp only
        cases hw : d.wd with
        | none => exact .no
        | some w =>
          rcases E.tb g d e with ⟨e1, _⟩ | ⟨e1, _⟩
          · rw [e1]
            dsimp only
            rw [hw]
            dsimp only
            cases h2 : wordsG tA w cA hs ks s with
            | none => exact .no
            | some l => rw [wordsG_res E w h2]; exact rfl
          · rw [hw] at e1; cases e1
theorem simLx (E : SimEnv ρ D cA cB tA tB) : ∀ (c : List CE) (f f' : Sg → Rs RV) (hf : ∀ s, SimR ρ D (resR ρ D) (f s) (f' (resG ρ D s))) (s : Sg), SimR ρ D (resL ρ D) (evLx cA tA f c s) (evLx cB tB f' c (resG ρ D s))
  | [], f, f', hf, s => by
    simp only [evLx]
    unfold starG
    refine SimR.bind (hf s) fun r s1 _ => ?_
    rw [deref_res]
    cases deref s1 r with
    | none => exact .no
    | some x =>
      dsimp only [Option.map_some]
      cases h : seqOf x with
      | none => exact .no
      | some m => rw [seqOf_res h]; exact rfl
  | e :: es, f, f', hf, s => by
    simp only [evLx]
    refine SimR.bind (simE E e s) fun r s1 _ => ?_
    cases h : r.val? with
    | none => exact .no
    | some x =>
      rw [val_res h]
      exact SimR.bind (simLx E es f f' hf s1) fun m s2 _ => rfl
theorem simEs (E : SimEnv ρ D cA cB tA tB) : ∀ (c : List CE) (s : Sg), SimR ρ D (List.map (resR ρ D)) (evEs cA tA c s) (evEs cB tB c (resG ρ D s))
  | [], s => by simp only [evEs]; exact rfl
  | e :: es, s => by
    simp only [evEs]
    exact SimR.bind (simE E e s) fun x s1 _ => SimR.bind (simEs E es s1) fun y s2 _ => rfl
theorem simO (E : SimEnv ρ D cA cB tA tB) : ∀ (c : Option CE) (s : Sg), SimR ρ D id (evO cA tA c s) (evO cB tB c (resG ρ D s))
  | none, s => by simp only [evO]; exact rfl
  | some e, s => by
    simp only [evO]
    refine SimR.bind (simE E e s) fun x s1 _ => ?_
    cases h : x.int? with
    | none => exact .no
    | some i => rw [int_res h]; exact rfl
theorem simT (E : SimEnv ρ D cA cB tA tB) : ∀ (c : List CE) (s : Sg), SimR ρ D id (evT cA tA c s) (evT cB tB c (resG ρ D s))
  | [], s => by simp only [evT]; exact rfl
  | e :: es, s => by
    simp only [evT]
    refine SimR.bind (simB (simE E e s)) fun x s1 _ => ?_
    cases x with
    | true => exact simT E es s1
    | false => exact rfl
end
end
end Mp

/-! MpSi5: statements, whole runs. -/
namespace Mp
open PySem
section
variable {ρ : Nat → Nat} {D : Nat → PV} {cA cB : Cl} {tA tB : Nat → Option Fd}
theorem SimS.no {b : Ss} : SimS ρ D .no b := True.intro
theorem toSs_sim {α : Type} {c : α → α} {a b : Rs α} {f g : α → Sg → Ss} (h : SimR ρ D c a b) (k : ∀ r s, a = .ok r s → SimS ρ D (f r s) (g (c r) (resG ρ D s))) : SimS ρ D (toSs a f) (toSs b g) := by
  cases a with
  | ok r s => obtain rfl : b = .ok (c r) (resG ρ D s) := h; exact k r s rfl
  | er x s => obtain rfl : b = .er (resX ρ D x) (resG ρ D s) := h; exact rfl
  | no => exact .no
theorem wh_sim {t t' : Sg → Rs Bool} {b b' : Sg → Ss} (ht : ∀ s, SimR ρ D id (t s) (t' (resG ρ D s))) (hb : ∀ s, SimS ρ D (b s) (b' (resG ρ D s))) : ∀ (n : Nat) (s : Sg), SimS ρ D (whGo t b n s) (whGo t' b' n (resG ρ D s))
  | 0, s => .no
  | n + 1, s => by
    unfold whGo
    have h1 := ht s
    cases e1 : t s with
    | no => exact .no
    | er x s1 => rw [e1] at h1; rw [show t' (resG ρ D s) = .er _ _ from h1]; exact rfl
    | ok c s1 =>
      rw [e1] at h1
      rw [show t' (resG ρ D s) = .ok c (resG ρ D s1) from h1]
      cases c with
      | false => exact rfl
      | true =>
        dsimp only
        have h2 := hb s1
        cases e2 : b s1 with
        | no => exact .no
        | nx s2 => rw [e2] at h2; rw [show b' (resG ρ D s1) = .nx _ from h2]; exact wh_sim ht hb n s2
        | ct s2 => rw [e2] at h2; rw [show b' (resG ρ D s1) = .ct _ from h2]; exact wh_sim ht hb n s2
        | bk s2 => rw [e2] at h2; rw [show b' (resG ρ D s1) = .bk _ from h2]; exact rfl
        | rt r s2 => rw [e2] at h2; rw [show b' (resG ρ D s1) = .rt _ _ from h2]; exact rfl
        | er x s2 => rw [e2] at h2; rw [show b' (resG ρ D s1) = .er _ _ from h2]; exact rfl
theorem fr_sim {tg : Tg} {b b' : Sg → Ss} (hb : ∀ s, SimS ρ D (b s) (b' (resG ρ D s))) : ∀ (xs : List PV) (s : Sg), SimS ρ D (frGo tg b xs s) (frGo tg b' (resL ρ D xs) (resG ρ D s))
  | [], s => rfl
  | x :: xs, s => by
    unfold frGo
    show SimS ρ D _ (match tg.store (res ρ D x) (resG ρ D s) with
      | none => .no
      | some s1 => match b' s1 with
        | .nx s2 => frGo tg b' (resL ρ D xs) s2
        | .ct s2 => frGo tg b' (resL ρ D xs) s2
        | .bk s2 => .nx s2
        | r => r)
    cases e1 : tg.store x s with
    | none => exact .no
    | some s1 =>
      rw [store_res tg x s s1 e1]
      dsimp only
      have h2 := hb s1
      cases e2 : b s1 with
      | no => exact .no
      | nx s2 => rw [e2] at h2; rw [show b' (resG ρ D s1) = .nx _ from h2]; exact fr_sim hb xs s2
      | ct s2 => rw [e2] at h2; rw [show b' (resG ρ D s1) = .ct _ from h2]; exact fr_sim hb xs s2
      | bk s2 => rw [e2] at h2; rw [show b' (resG ρ D s1) = .bk _ from h2]; exact rfl
      | rt r s2 => rw [e2] at h2; rw [show b' (resG ρ D s1) = .rt _ _ from h2]; exact rfl
      | er x s2 => rw [e2] at h2; rw [show b' (resG ρ D s1) = .er _ _ from h2]; exact rfl
theorem setFd_res {s s' : Sg} {i c j : Nat} {v : PV} (h : setFd s i c j v = some s') : setFd (resG ρ D s) i c j (res ρ D v) = some (resG ρ D s') := by
  unfold setFd at h ⊢
  split at h
  · rename_i t c' xs e
    rw [resG_at, e]
    show (if c' = c ∧ (resL ρ D xs).length ≤ 100 then (if (resL ρ D xs).length = j then some ((resG ρ D s).set i (.own t (.ins c (resL ρ D xs ++ [res ρ D v])))) else if j < (resL ρ D xs).length then some ((resG ρ D s).set i (.own t (.ins c ((resL ρ D xs).set j (res ρ D v))))) else none) else none) = _
    rw [resL_len]
    split at h
    · rename_i hc
      rw [if_pos hc]
      split at h
      · rename_i hj
        rw [if_pos hj]
        cases h
        rw [resG_set]
        exact congrArg (fun y => some ((resG ρ D s).set i (.own t (.ins c y)))) (by rw [resL_append]; rfl)
      · rename_i hj
        rw [if_neg hj]
        split at h
        · rename_i hl
          rw [if_pos hl]
          cases h
          rw [resG_set]
          exact congrArg (fun y => some ((resG ρ D s).set i (.own t (.ins c y)))) (by rw [resL_eq, resL_eq, List.map_set])
        · cases h
    · cases h
  · cases h
theorem setFds_res {i c : Nat} : ∀ {js : List Nat} {vs : List PV} {s s' : Sg}, setFds i c js vs s = some s' → setFds i c js (resL ρ D vs) (resG ρ D s) = some (resG ρ D s')
  | [], [], s, s', h => by unfold setFds at h; cases h; rfl
  | [], _ :: _, _, _, h => by simp [setFds] at h
  | _ :: _, [], _, _, h => by simp [setFds] at h
  | j :: js, v :: vs, s, s', h => by
    unfold setFds at h
    split at h
    · rename_i s1 e
      show setFds i c (j :: js) (res ρ D v :: resL ρ D vs) (resG ρ D s) = _
      unfold setFds
      rw [setFd_res e]
      exact setFds_res h
    · cases h
mutual
theorem simS (E : SimEnv ρ D cA cB tA tB) : ∀ (c : CS) (s : Sg), SimS ρ D (exS cA tA c s) (exS cB tB c (resG ρ D s))
  | .asg t e, s => by
    simp only [exS]
    refine toSs_sim (simE E e s) fun r s1 _ => ?_
    cases h : t.asg r s1 with
    | none => exact .no
    | some s2 => rw [asg_res h]; exact rfl
  | .par is es, s => by
    simp only [exS]
    refine toSs_sim (simEs E es s) fun rs s1 _ => ?_
    cases h : setAll is rs s1 with
    | none => exact .no
    | some s2 => rw [setAll_res h]; exact rfl
  | .aug i op e, s => by
    simp only [exS]
    rw [resG_at]
    cases h : s[i]? with
    | none => exact .no
    | some sl =>
      cases sl with
      | un => exact .no
      | lam _ => exact .no
      | own t x => exact .no
      | pv x =>
        cases x <;> first | exact .no | skip
        rename_i m
        refine toSs_sim (simE E e s) fun r s1 _ => ?_
        cases hk : r.int? with
        | none => exact .no
        | some k =>
          rw [int_res hk]
          cases op <;> first | exact .no | (show Ss.nx _ = Ss.nx _; rw [resG_set]; rfl)
  | .set i ix e, s => by
    simp only [exS]
    refine toSs_sim (simE E e s) fun r s1 _ => ?_
    cases h : isOwnL s1 i with
    | false => exact .no
    | true =>
      rw [isOwnL_res h]
      refine toSs_sim (simE E ix s1) fun j s2 _ => ?_
      cases ev : valOf r with
      | none => exact .no
      | some v =>
        rw [valOf_res ev]
        cases hj : j.int? with
        | none => exact .no
        | some k =>
          rw [int_res hj]
          cases ho : ownL s2 i with
          | none => exact .no
          | some tl =>
            obtain ⟨t, l⟩ := tl
            rw [ownL_res ho]
            dsimp only
            rw [resL_len]
            cases ixP l.length k with
            | none => exact .no
            | some m =>
              show Ss.nx ((resG ρ D s2).set i (.own t (.lst ((resL ρ D l).set m (res ρ D v))))) = Ss.nx (resG ρ D (s2.set i (.own t (.lst (l.set m v)))))
              rw [resG_set]
              exact congrArg (fun y => Ss.nx ((resG ρ D s2).set i (.own t (.lst y)))) (by rw [resL_eq, resL_eq, List.map_set])
  | .app i e, s => by
    simp only [exS]
    cases h : isOwnL s i with
    | false => exact .no
    | true =>
      rw [isOwnL_res h]
      refine toSs_sim (simE E e s) fun r s1 _ => ?_
      cases ev : valOf r with
      | none => exact .no
      | some v =>
        rw [valOf_res ev]
        cases ho : ownL s1 i with
        | none => exact .no
        | some tl =>
          obtain ⟨t, l⟩ := tl
          rw [ownL_res ho]
          dsimp only
          rw [resL_len]
          split
          · show Ss.nx ((resG ρ D s1).set i (.own t (.lst (resL ρ D l ++ [res ρ D v])))) = Ss.nx (resG ρ D (s1.set i (.own t (.lst (l ++ [v])))))
            rw [resG_set]
            exact congrArg (fun y => Ss.nx ((resG ρ D s1).set i (.own t (.lst y)))) (by rw [resL_append]; rfl)
          · exact .no
  | .exp e, s => by
    simp only [exS]
    exact toSs_sim (simE E e s) fun r s1 _ => rfl
  | .ret e, s => by
    simp only [exS]
    refine toSs_sim (simE E e s) fun r s1 _ => ?_
    cases h : retV s1 r with
    | none => exact .no
    | some q =>
      obtain ⟨r', s2⟩ := q
      rw [retV_res h]
      exact rfl
  | .retN, s => by simp only [exS]; exact rfl
  | .ite t a b, s => by
    simp only [exS]
    refine toSs_sim (simB (simE E t s)) fun c s1 _ => ?_
    cases c with
    | true => exact simSs E a s1
    | false => exact simSs E b s1
  | .whl t b, s => by
    simp only [exS]
    exact wh_sim (fun s => simB (simE E t s)) (fun s => simSs E b s) fuel s
  | .fro tg k src b, s => by
    simp only [exS]
    refine toSs_sim (simEs E src s) fun rs s1 _ => ?_
    cases evs : valsOf rs with
    | none => exact .no
    | some l =>
      rw [valsOf_res evs]
      dsimp only
      cases h : itV k l with
      | none => exact .no
      | some xs =>
        rw [itV_res h]
        exact fr_sim (fun s => simSs E b s) xs s1
  | .brk, s => by simp only [exS]; exact rfl
  | .cnt, s => by simp only [exS]; exact rfl
  | .pas, s => by simp only [exS]; exact rfl
  | .ded, s => by simp only [exS]; exact .no
  | .rse c .txt, s => by simp only [exS]; exact rfl
  | .rse c (.ini g f e), s => by
    simp only [exS]
    refine toSs_sim (simE E e s) fun r s1 _ => ?_
    cases ev : valOf r with
    | none => exact .no
    | some x =>
      rw [valOf_res ev]
      dsimp only
      have q := E.cl g [.un, .pv x]
      cases h : cA g [.un, .pv x] with
      | no => exact .no
      | er _ _ => exact .no
      | ok r2 s2 =>
        rw [h] at q
        rw [show cB g [.un, .pv (res ρ D x)] = .ok _ _ from q]
        exact rfl
  | .stf i c j e, s => by
    simp only [exS]
    refine toSs_sim (simE E e s) fun r s1 _ => ?_
    cases ev : valOf r with
    | none => exact .no
    | some v =>
      rw [valOf_res ev]
      dsimp only
      cases h : setFd s1 i c j v with
      | none => exact .no
      | some s2 => rw [setFd_res h]; exact rfl
  | .stp i c js e, s => by
    simp only [exS]
    refine toSs_sim (simE E e s) fun r s1 er => ?_
    clear er
    split
    · rename_i vs
      show SimS ρ D _ (match setFds i c js (resL ρ D vs) (resG ρ D s1) with
        | some s2 => .nx s2
        | none => .no)
      cases h : setFds i c js vs s1 with
      | none => exact .no
      | some s2 => rw [setFds_res h]; exact rfl
    · exact .no
  | .asl i hs, s => by
    simp only [exS]
    rw [resG_len]
    split
    · show Ss.nx _ = Ss.nx _
      rw [resG_set]
      rfl
    · exact .no
theorem simSs (E : SimEnv ρ D cA cB tA tB) : ∀ (c : List CS) (s : Sg), SimS ρ D (exSs cA tA c s) (exSs cB tB c (resG ρ D s))
  | [], s => by simp only [exSs]; exact rfl
  | c :: cs, s => by
    simp only [exSs]
    have h1 := simS E c s
    cases e : exS cA tA c s with
    | no => exact .no
    | nx s2 => rw [e] at h1; rw [show exS cB tB c (resG ρ D s) = .nx _ from h1]; exact simSs E cs s2
    | ct s2 => rw [e] at h1; rw [show exS cB tB c (resG ρ D s) = .ct _ from h1]; exact rfl
    | bk s2 => rw [e] at h1; rw [show exS cB tB c (resG ρ D s) = .bk _ from h1]; exact rfl
    | rt r s2 => rw [e] at h1; rw [show exS cB tB c (resG ρ D s) = .rt _ _ from h1]; exact rfl
    | er x s2 => rw [e] at h1; rw [show exS cB tB c (resG ρ D s) = .er _ _ from h1]; exact rfl
end
theorem step_sim (E : SimEnv ρ D cA cB tA tB) (g : Nat) (as : Sg) (hg : ∀ d, tA g = some d → tB g = some d) : SimR ρ D (resR ρ D) (stepF tA cA g as) (stepF tB cB g (resG ρ D as)) := by
  unfold stepF
  cases e : tA g with
  | none => exact .no
  | some d =>
    rw [hg d e]
    dsimp only
    rw [resG_len]
    split
    · have e1 : resG ρ D as ++ List.replicate (d.N.length - d.np) Slot.un = resG ρ D (as ++ List.replicate (d.N.length - d.np) Slot.un) := by rw [resG_app, resG_un]
      rw [e1]
      have h1 := simSs E d.body (as ++ List.replicate (d.N.length - d.np) Slot.un)
      cases e2 : exSs cA tA d.body (as ++ List.replicate (d.N.length - d.np) Slot.un) with
      | no => exact .no
      | bk _ => exact .no
      | ct _ => exact .no
      | nx s2 =>
        rw [e2] at h1
        rw [show exSs cB tB d.body _ = .nx (resG ρ D s2) from h1]
        show Rs.ok _ _ = Rs.ok _ _
        rw [outs_res]
        rfl
      | er x s2 =>
        rw [e2] at h1
        rw [show exSs cB tB d.body _ = .er (resX ρ D x) (resG ρ D s2) from h1]
        show Rs.er _ _ = Rs.er _ _
        rw [outs_res]
      | rt r s2 =>
        rw [e2] at h1
        rw [show exSs cB tB d.body _ = .rt (resR ρ D r) (resG ρ D s2) from h1]
        dsimp only
        cases r with
        | bor i => exact .no
        | val x => show Rs.ok _ _ = Rs.ok _ _; rw [outs_res]
        | frs x => show Rs.ok _ _ = Rs.ok _ _; rw [outs_res]
    · exact .no
end
/-- what the law's def of a draw does -/
def PickIs (tb : Nat → Option Fd) (pk : Nat) (ns : List Nat) (ρ : Nat → Nat) (D : Nat → PV) : Prop := ∀ (n j : Nat) (y : PV) (l : List PV), 3 ≤ n → itemsOf y = some l → 0 < l.length → ns[j]? = some l.length →
  runF tb (n + 1) pk [.own false (D j), .pv y] = .ok (.val (PV.pick (ρ j) l)) [.own false (D (j + 1)), .pv y] ∧ runF tb (n + 1) pk [.own false (D j), .own false y] = .ok (.val (PV.pick (ρ j) l)) [.own false (D (j + 1)), .un]
theorem items_res {ρ : Nat → Nat} {D : Nat → PV} {x : PV} {l : List PV} (h : itemsOf x = some l) : itemsOf (res ρ D x) = some (resL ρ D l) := by
  cases x <;> first | (cases h; done) | skip
  · rename_i s
    have h' : (if s.length ≤ line then some (s.cps.toList.map fun c => PV.str ⟨#[c]⟩) else none) = some l := h
    split at h'
    · rename_i hl
      cases h'
      show (if s.length ≤ line then some (s.cps.toList.map fun c => PV.str ⟨#[c]⟩) else none) = some (resL ρ D _)
      rw [if_pos hl, resL_eq, List.map_map]
      rfl
    · cases h'
  · cases h; rfl
  · cases h; rfl
theorem tbA_abs {tb : Nat → Option Fd} {ns : List Nat} : isAbs (tbA tb ns) = true ∧ nsOf (tbA tb ns) = ns := by
  unfold isAbs nsOf tbA
  rw [if_pos rfl]
  exact ⟨rfl, rfl⟩
/-- THE RULE: a run over draws tells the run -/
theorem runA_sim {tb : Nat → Option Fd} {pk : Nat} {ns : List Nat} {ρ : Nat → Nat} {D : Nat → PV} (hk : pk ≠ MDNO) (hp : PickIs tb pk ns ρ D) (hr : ∀ k n, ns[k]? = some n → ρ k < n) (ha : isAbs tb = false) (hd : ∀ g d, tb g = some d → PV.nodL d.dfl = true) :
    ∀ (n g : Nat) (as : Sg), SimR ρ D (resR ρ D) (runA tb pk ns n g as) (runF tb n g (resG ρ D as))
  | 0, g, as => .no
  | n + 1, g, as => by
    unfold runA
    by_cases hg : g = pk
    · rw [if_pos hg]
      subst hg
      by_cases hn : 3 ≤ n
      · rw [if_pos hn]
        unfold pickA
        split
        · rename_i j x
          split
          · rename_i l hl
            split
            · rename_i hc
              have q := (hp n j (res ρ D x) (resL ρ D l) hn (items_res hl) (by rw [resL_len]; exact hc.1) (by rw [resL_len]; exact hc.2)).1
              exact q
            · exact .no
          · exact .no
        · rename_i j x
          split
          · rename_i l hl
            split
            · rename_i hc
              have q := (hp n j (res ρ D x) (resL ρ D l) hn (items_res hl) (by rw [resL_len]; exact hc.1) (by rw [resL_len]; exact hc.2)).2
              exact q
            · exact .no
          · exact .no
        · exact .no
      · rw [if_neg hn]; exact .no
    · rw [if_neg hg]
      by_cases hM : g = MDNO
      · rw [if_pos hM]; exact .no
      · rw [if_neg hM, runF_succ]
        refine step_sim ⟨fun g as => runA_sim hk hp hr ha hd n g as, fun g d e => ?_, ha, tbA_abs.1, fun k m e => hr k m (by rw [← e, tbA_abs.2])⟩ g as fun d e => ?_
        · unfold tbA at e
          split at e
          · rename_i hM2
            cases e
            refine .inr ⟨rfl, fun as => ?_⟩
            cases n with
            | zero => rfl
            | succ n =>
              unfold runA
              rw [if_neg (fun q => hk (by rw [← q, hM2])), if_pos hM2]
          · exact .inl ⟨e, hd g d e⟩
        · unfold tbA at e
          rwa [if_neg hM] at e
end Mp

/-! MpDice: the laws' dice. -/
namespace Mp
open PySem
def bDice : List CS := [
  .asg (.nm 2) (.ife (.cmp .Lt (.bor 1) (.bui .len [(.bor 0)])) (.bui .int [(.sub (.bor 0) (.var 1))]) (.bin .Add (.bin .Mult (.cst (.int 131)) (.bor 1)) (.cst (.int 37)))),
  .asg (.nm 3) (.bin .Mod (.bui .int [(.bui .abs [(.bor 2)])]) (.bin .Pow (.bin .Pow (.cst (.int 10)) (.cst (.int 53))) (.cst (.int 6)))),
  .asg (.nm 4) (.bin .Add (.bin .Add (.bin .Add (.bin .Mult (.bin .Mod (.bor 3) (.cst (.int 2305843009213693907))) (.cst (.int 73))) (.bin .Mult (.cst (.int 619)) (.bor 1))) (.bin .Mult (.cst (.int 41)) (.bui .int [(.cmp .Lt
    (.bor 2) (.cst (.int 0)))]))) (.cst (.int 17))),
  .ret (.lst [(.bui .max [(.cst (.int 0)), (.bin .Sub (.bor 3) (.bin .Pow (.cst (.int 10)) (.cst (.int 16))))]), (.var 4), (.cst (.int 0))])]
def dDice : Fd := ⟨"_law_dice", ["script", "spot", "cell", "great", "seed"], 2, [], [], bDice, none, false⟩
def bRoll : List CS := [
  .ite (.cmp .Gt (.sub (.bor 0) (.cst (.int 0))) (.cst (.int 0))) [.asg (.nm 2) (.bin .Mod (.sub (.bor 0) (.cst (.int 0))) (.bor 1)), .set 0 (.cst (.int 0)) (.bin .FloorDiv (.sub (.bor 0) (.cst (.int 0))) (.bor 1)), .ret (.bui
    .int [(.bor 2)])] [],
  .set 0 (.cst (.int 2)) (.bin .Add (.sub (.bor 0) (.cst (.int 2))) (.cst (.int 1))),
  .asg (.nm 3) (.bin .Mod (.bin .Add (.sub (.bor 0) (.cst (.int 1))) (.bin .Mult (.cst (.int 49979687)) (.sub (.bor 0) (.cst (.int 2))))) (.cst (.int 2305843009213693951))),
  .asg (.nm 4) (.bin .Add (.bin .Mult (.bin .Mod (.bin .Add (.bin .Mult (.bor 3) (.bor 3)) (.bin .Mult (.cst (.int 131)) (.sub (.bor 0) (.cst (.int 2))))) (.cst (.int 2305843009213693921))) (.cst (.int 32452843))) (.bor 3)),
  .ret (.bin .Mod (.bui .int [(.bin .FloorDiv (.bor 4) (.cst (.int 65587)))]) (.bor 1))]
def dRoll (x : Str) : Fd := ⟨"_law_roll", ["dice", x, "found", "one", "two"], 2, [], [0], bRoll, none, false⟩
def bPick (g : Nat) : List CS := [.ret (.sub (.bor 1) (.cal g [(.bor 0), (.bui .len [(.bor 1)])]))]
def dPick (x : Str) (g : Nat) : Fd := ⟨"_law_pick", ["dice", x], 2, [], [0], bPick g, none, false⟩
/-- one roll -/
def rollV (d : PV) (m : Int) : Int × PV := match d with
  | .lst [.int g, .int s, .int c] => if 0 < g then (g.fmod m, .lst [.int (g.fdiv m), .int s, .int c]) else (((((((s + 49979687 * (c + 1)).fmod 2305843009213693951) * ((s + 49979687 * (c + 1)).fmod 2305843009213693951) + 131 * (c + 1)).fmod 2305843009213693921) * 32452843 + ((s + 49979687 * (c + 1)).fmod 2305843009213693951)).fdiv 65587).fmod m, .lst [.int g, .int s, .int (c + 1)])
  | d => (0, d)
/-- the dice behind at most m rolls -/
structure DK (m : Nat) (d : PV) : Prop where
  ex : ∃ g s c : Int, d = .lst [.int g, .int s, .int c] ∧ 0 ≤ g ∧ sz g ≤ 1100 ∧ 0 ≤ s ∧ sz s ≤ 100 ∧ 0 ≤ c ∧ sz c ≤ 100 + m
theorem DK.mono {m k : Nat} {d : PV} (h : DK m d) (hk : m ≤ k) : DK k d := by
  obtain ⟨g, s, c, h1, h2, h3, h4, h5, h6, h7⟩ := h.ex
  exact ⟨g, s, c, h1, h2, h3, h4, h5, h6, by omega⟩
section
variable {tb : Nat → Option Fd} {gR gP gD : Nat}
theorem np_roll (x : Str) : (dRoll x).np = 2 := rfl
theorem rollG {xR : Str} (hR : tb gR = some (dRoll xR)) (n : Nat) {m : Nat} {d : PV} (many : Int) (hd : DK m d) (hm : m ≤ 10000) (h0 : 0 < many) (h1 : sz many ≤ 7000) :
    runF tb (n + 1) gR [.own false d, .pv (.int many)] = .ok (.val (.int (rollV d many).1)) [.own false (rollV d many).2, .pv (.int many)] ∧ 0 ≤ (rollV d many).1 ∧ (rollV d many).1 < many ∧ DK (m + 1) (rollV d many).2 := by
  obtain ⟨g, s, c, rfl, g0, g1, s0, s1, c0, c1⟩ := hd.ex
  rw [run1 hR rfl]
  have m0 : ¬ many = 0 := by omega
  have p1 := no_pylong (a := g) (b := many) (by omega)
  by_cases hg : 0 < g
  · have ev : rollV (.lst [.int g, .int s, .int c]) many = (g.fmod many, .lst [.int (g.fdiv many), .int s, .int c]) := if_pos hg
    rw [ev]
    refine ⟨?_, ?_, ?_, g.fdiv many, s, c, rfl, ?_, ?_, s0, s1, c0, by omega⟩
    · simp [dRoll, bRoll, hg, binI, m0, p1]
    · rw [Int.fmod_eq_emod_of_nonneg _ (by omega)]; exact Int.emod_nonneg _ m0
    · rw [Int.fmod_eq_emod_of_nonneg _ (by omega)]; exact Int.emod_lt_of_pos _ h0
    · rw [Int.fdiv_eq_ediv_of_nonneg _ (by omega)]; exact Int.ediv_nonneg g0 (by omega)
    · rw [Int.fdiv_eq_ediv_of_nonneg _ (by omega)]; exact Nat.le_trans (sz_div _ _) g1
  · have k1 : sz (c + 1) ≤ 100 + m + 1 := sz_add c1 (Nat.le_trans (show siz 1 ≤ 1 by decide) (by omega))
    have q1 := ok_mul (a := 49979687) (b := c + 1) (by decide) (by omega)
    have q2 := ok_mul (a := 131) (b := c + 1) (by decide) (by omega)
    have ev : rollV (.lst [.int g, .int s, .int c]) many = (((((((s + 49979687 * (c + 1)).fmod 2305843009213693951) * ((s + 49979687 * (c + 1)).fmod 2305843009213693951) + 131 * (c + 1)).fmod 2305843009213693921) * 32452843 + ((s + 49979687 * (c + 1)).fmod 2305843009213693951)).fdiv 65587).fmod many, .lst [.int g, .int s, .int (c + 1)]) := if_neg hg
    rw [ev]
    obtain ⟨one, ho⟩ : ∃ one : Int, (s + 49979687 * (c + 1)).fmod 2305843009213693951 = one := ⟨_, rfl⟩
    have o1 : 0 ≤ one ∧ one < 2305843009213693951 := by rw [← ho]; exact ⟨Int.fmod_nonneg_of_pos _ (by decide), Int.fmod_lt_of_pos _ (by decide)⟩
    rw [ho]
    have o2 : sz one ≤ 62 := siz_lt (by omega)
    have q3 := ok_mul (a := one) (b := one) (by omega) (by omega)
    obtain ⟨two, ht⟩ : ∃ two : Int, (one * one + 131 * (c + 1)).fmod 2305843009213693921 = two := ⟨_, rfl⟩
    have t1 : 0 ≤ two ∧ two < 2305843009213693921 := by rw [← ht]; exact ⟨Int.fmod_nonneg_of_pos _ (by decide), Int.fmod_lt_of_pos _ (by decide)⟩
    rw [ht]
    have q4 := ok_mul (a := two) (b := 32452843) (Nat.le_trans (show sz two ≤ 62 from siz_lt (by omega)) (by decide)) (by decide)
    have p2 := no_pylong (a := two * 32452843 + one) (b := 65587) (by decide)
    refine ⟨?_, ?_, ?_, g, s, c + 1, rfl, g0, g1, s0, s1, by omega, k1⟩
    · simp [dRoll, bRoll, hg, binI, m0, q1, q2, ho, q3, ht, q4, p2]
    · exact Int.fmod_nonneg_of_pos _ h0
    · exact Int.fmod_lt_of_pos _ h0
theorem itemsV {y : PV} {l : List PV} {i : Int} (h : itemsOf y = some l) (h0 : 0 ≤ i) (h1 : i < l.length) : subV y (.int i) = some (PV.pick i.toNat l) ∧ biV .len [y] = some (.val (.int l.length)) := by
  have at_ : ∀ {α : Type} (xs : List α), i < xs.length → atP xs i = xs[i.toNat]? := fun xs hx => by
    unfold atP ixP
    rw [if_pos h0, if_pos hx]
  have pk : l[i.toNat]? = some (PV.pick i.toNat l) := pick_at (by omega)
  cases y <;> first | (cases h; done) | skip
  · rename_i s
    have h' : (if s.length ≤ line then some (s.cps.toList.map fun c => PV.str ⟨#[c]⟩) else none) = some l := h
    split at h'
    · rename_i hl
      cases h'
      rw [List.length_map] at h1
      constructor
      · show (if s.length ≤ line then (atP s.cps.toList i).map fun c => PV.str ⟨#[c]⟩ else none) = _
        rw [if_pos hl, at_ _ h1, ← pk, List.getElem?_map]
      · show (if s.length ≤ line then some (RV.val (.int s.length)) else none) = _
        rw [if_pos hl, List.length_map]
        rfl
    · cases h'
  · cases h; exact ⟨(at_ _ h1).trans pk, rfl⟩
  · cases h; exact ⟨(at_ _ h1).trans pk, rfl⟩
theorem pickG {xR xP : Str} (hR : tb gR = some (dRoll xR)) (hP : tb gP = some (dPick xP gR)) (n : Nat) {m : Nat} {d y : PV} {l : List PV} (hd : DK m d) (hm : m ≤ 10000) (hl : itemsOf y = some l) (h0 : 0 < l.length) (h1 : l.length ≤ 100000) :
    runF tb (n + 2) gP [.own false d, .pv y] = .ok (.val (PV.pick (rollV d l.length).1.toNat l)) [.own false (rollV d l.length).2, .pv y] ∧ runF tb (n + 2) gP [.own false d, .own false y] = .ok (.val (PV.pick (rollV d l.length).1.toNat l)) [.own false (rollV d l.length).2, .un] := by
  obtain ⟨e, r0, r1, h⟩ := rollG hR n (l.length : Int) hd hm (by omega) (Nat.le_trans (siz_lt (k := 20) (by rw [Int.natAbs_natCast]; exact Nat.lt_of_le_of_lt h1 (by decide))) (by decide))
  obtain ⟨v1, v2⟩ := itemsV hl r0 r1
  generalize (rollV d l.length).1 = r at e r0 r1 v1
  generalize (rollV d l.length).2 = d' at e h
  constructor
  · rw [run1 hP rfl]
    simp [dPick, bPick, hR, dRoll, e, v1, v2]
  · rw [run1 hP rfl]
    simp [dPick, bPick, hR, dRoll, e, v1, v2]
end
end Mp

/-! MpLaw: laws that roll dice, cell by cell and turn by turn. -/
namespace Mp
open PySem
def dAt (ns : List Nat) (d0 : PV) : Nat → PV
  | 0 => d0
  | j + 1 => (rollV (dAt ns d0 j) ((ns.getD j 1 : Nat) : Int)).2
def rAt (ns : List Nat) (d0 : PV) (j : Nat) : Nat := (rollV (dAt ns d0 j) ((ns.getD j 1 : Nat) : Int)).1.toNat
def nsOk (ns : List Nat) : Bool := decide (ns.length ≤ 1000) && ns.all fun n => decide (0 < n) && decide (n ≤ 100000)
section
variable {tb : Nat → Option Fd} {gR gP gD gT : Nat}
theorem pick_is {xR xP : Str} (hR : tb gR = some (dRoll xR)) (hP : tb gP = some (dPick xP gR)) {ns : List Nat} (hn : nsOk ns = true) {M : Nat} {d0 : PV} (hd : DK M d0) (hM : M ≤ 9000) :
    PickIs tb gP ns (rAt ns d0) (dAt ns d0) ∧ (∀ k n, ns[k]? = some n → rAt ns d0 k < n) ∧ ∀ j, j ≤ ns.length → DK (M + j) (dAt ns d0 j) := by
  unfold nsOk at hn
  simp only [Bool.and_eq_true, decide_eq_true_eq, List.all_eq_true] at hn
  obtain ⟨hl, hall⟩ := hn
  have sizes : ∀ j n, ns[j]? = some n → ns.getD j 1 = n ∧ 0 < n ∧ n ≤ 100000 := fun j n e => ⟨by rw [List.getD_eq_getElem?_getD, e]; rfl, hall n (List.mem_of_getElem? e)⟩
  have szn : ∀ n : Nat, n ≤ 100000 → sz (n : Int) ≤ 7000 := fun n h => Nat.le_trans (siz_lt (k := 20) (by rw [Int.natAbs_natCast]; exact Nat.lt_of_le_of_lt h (by decide))) (by decide)
  have K : ∀ j, j ≤ ns.length → DK (M + j) (dAt ns d0 j) := by
    intro j
    induction j with
    | zero => intro _; exact hd
    | succ j ih =>
      intro hj
      have e : ns[j]? = some ns[j] := List.getElem?_eq_getElem (by omega)
      obtain ⟨e1, e2, e3⟩ := sizes j _ e
      have q := rollG hR 0 ((ns.getD j 1 : Nat) : Int) (ih (by omega)) (by omega) (by rw [e1]; omega) (by rw [e1]; exact szn _ e3)
      exact q.2.2.2
  refine ⟨fun n j y l h3 hi h0 hj => ?_, fun k n e => ?_, K⟩
  · have hjl := (List.getElem?_eq_some_iff.mp hj).1
    obtain ⟨e1, e2, e3⟩ := sizes j _ hj
    have q := pickG hR hP (n - 1) (K j (by omega)) (by omega) hi h0 e3
    rw [show n - 1 + 2 = n + 1 by omega] at q
    show runF tb (n + 1) gP [.own false (dAt ns d0 j), .pv y] = .ok (.val (PV.pick (rollV (dAt ns d0 j) ((ns.getD j 1 : Nat) : Int)).1.toNat l)) [.own false (rollV (dAt ns d0 j) ((ns.getD j 1 : Nat) : Int)).2, .pv y] ∧ _
    rw [e1]
    refine ⟨q.1, ?_⟩
    show runF tb (n + 1) gP [.own false (dAt ns d0 j), .own false y] = .ok (.val (PV.pick (rollV (dAt ns d0 j) ((ns.getD j 1 : Nat) : Int)).1.toNat l)) [.own false (rollV (dAt ns d0 j) ((ns.getD j 1 : Nat) : Int)).2, .un]
    rw [e1]
    exact q.2
  · have hjl := (List.getElem?_eq_some_iff.mp e).1
    obtain ⟨e1, e2, e3⟩ := sizes k _ e
    have q := rollG hR 0 ((ns.getD k 1 : Nat) : Int) (K k (by omega)) (by omega) (by rw [e1]; omega) (by rw [e1]; exact szn _ e3)
    unfold rAt
    rw [e1] at q ⊢
    have := q.2.1
    have := q.2.2.1
    omega
/-- a turn: the def g, its further arguments rest -/
theorem turnG {xR xP : Str} (hR : tb gR = some (dRoll xR)) (hP : tb gP = some (dPick xP gR)) (hk : gP ≠ MDNO) (ha : isAbs tb = false) (hdf : ∀ g d, tb g = some d → PV.nodL d.dfl = true) {ns : List Nat} (hn : nsOk ns = true) {N g m : Nat} {rest : Sg}
    (hg : goodA tb gP ns N g (.own false (.dic 0) :: rest) = some m) (hm : m ≤ ns.length) (hrest : ∀ ρ D, resG ρ D rest = rest) {M : Nat} {d0 : PV} (hd : DK M d0) (hM : M ≤ 9000) :
    ∃ d' t, runF tb N g (.own false d0 :: rest) = .ok (.val (.bl true)) (.own false d' :: t) ∧ DK (M + ns.length) d' := by
  obtain ⟨p1, p2, p3⟩ := pick_is hR hP hn hd hM
  have q := runA_sim hk p1 p2 ha hdf N g (.own false (.dic 0) :: rest)
  unfold goodA at hg
  split at hg
  · rename_i m' t e
    cases hg
    rw [e] at q
    have e2 : resG (rAt ns d0) (dAt ns d0) (.own false (.dic 0) :: rest) = .own false d0 :: rest := by
      show Slot.own false (dAt ns d0 0) :: resG _ _ rest = _
      rw [hrest]
      rfl
    rw [e2] at q
    exact ⟨dAt ns d0 m, resG (rAt ns d0) (dAt ns d0) t, q, (p3 m hm).mono (by omega)⟩
  · cases hg
/-- what is asked of a turn -/
def Turn (tb : Nat → Option Fd) (N g L : Nat) : Prop := ∀ M d, DK M d → M ≤ 9000 → ∃ d' t, runF tb N g [.own false d] = .ok (.val (.bl true)) (.own false d' :: t) ∧ DK (M + L) d'
def turnB (g : Nat) : List CS := [.ite (.notT (.tru (.cal g [(.bor 2)]))) [.ret (.cst (.bl false))] []]
theorem turns1 {N L : Nat} {dT : Fd} (hT : tb gT = some dT) (h1 : dT.np = 1) (h2 : dT.dfl = []) (h3 : dT.mp = [0]) (t : Turn tb N gT L) (x0 x1 : Slot) (tl : Sg) :
    ∀ (xs : List PV) (x : PV) (f : Bool) (M : Nat) (d : PV) (x3 : Slot), DK M d → M + (xs.length + 1) * L ≤ 9000 → ∃ (d' y : PV), frGo (.nm 3) (exSs (runF tb N) tb (turnB gT)) (x :: xs) (x0 :: x1 :: .own f d :: x3 :: tl) = .nx (x0 :: x1 :: .own false d' :: .pv y :: tl)
  | [], x, f, M, d, x3, hd, hM => by
    obtain ⟨d1, t1, e, hk⟩ := t M d hd (by omega)
    refine ⟨d1, x, ?_⟩
    rw [frGo]
    simp [turnB, hT, h1, h2, h3, e, frGo]
  | x' :: xs, x, f, M, d, x3, hd, hM => by
    rw [List.length_cons, Nat.succ_mul] at hM
    obtain ⟨d1, t1, e, hk⟩ := t M d hd (by omega)
    obtain ⟨d2, y, e2⟩ := turns1 hT h1 h2 h3 t x0 x1 tl xs x' false (M + L) d1 (.pv x) hk (by omega)
    refine ⟨d2, y, ?_⟩
    rw [frGo]
    simp [turnB, hT, h1, h2, h3, e]
    exact e2
theorem nab (i : Int) : (if i < 0 then -i else i) = (i.natAbs : Int) := by split <;> omega
theorem diceG (hD : tb gD = some dDice) (n : Nat) (ns : List Int) (spot : Nat) (hs : spot < 100) : ∃ d, runF tb (n + 1) gD [.pv (.frz (ns.map PV.int)), .pv (.int spot)] = .ok (.frs d) [.pv (.frz (ns.map PV.int)), .pv (.int spot)] ∧ DK 0 d := by
  rw [run1 hD rfl]
  have m1 : okMul 131 (spot : Int) = true := ok_mul (by decide) (Nat.le_trans (siz_lt (k := 10) (by omega)) (by decide))
  have m2 : okMul 619 (spot : Int) = true := ok_mul (by decide) (Nat.le_trans (siz_lt (k := 10) (by omega)) (by decide))
  have key : ∀ cell : Int, ∃ d, exSs (runF tb n) tb (bDice.drop 1) [.pv (.frz (ns.map PV.int)), .pv (.int spot), .pv (.int cell), .un, .un] = .rt (.frs d) [.pv (.frz (ns.map PV.int)), .pv (.int spot), .pv (.int cell), .pv (.int ((cell.natAbs : Int).fmod ((10 ^ 53) ^ 6))), .pv (.int (((cell.natAbs : Int).fmod ((10 ^ 53) ^ 6)).fmod 2305843009213693907 * 73 + 619 * spot + 41 * (if cell < 0 then 1 else 0) + 17))] ∧ DK 0 d := by
    intro cell
    obtain ⟨g, hg⟩ : ∃ g : Int, (cell.natAbs : Int).fmod ((10 ^ 53) ^ 6) = g := ⟨_, rfl⟩
    have g0 : 0 ≤ g := by rw [← hg]; exact Int.fmod_nonneg_of_pos _ (by decide)
    have g1 : g < (10 ^ 53) ^ 6 := by rw [← hg]; exact Int.fmod_lt_of_pos _ (by decide)
    have g2 : sz g ≤ 1060 := siz_lt (by
      have : ((10 : Int) ^ 53) ^ 6 ≤ 2 ^ 1060 := by decide +kernel
      omega)
    obtain ⟨p, hp⟩ : ∃ p : Int, g.fmod 2305843009213693907 = p := ⟨_, rfl⟩
    have p0 : 0 ≤ p := by rw [← hp]; exact Int.fmod_nonneg_of_pos _ (by decide)
    have p1 : p < 2305843009213693907 := by rw [← hp]; exact Int.fmod_lt_of_pos _ (by decide)
    have m3 : okMul p 73 = true := ok_mul (Nat.le_trans (siz_lt (k := 62) (by omega)) (by decide)) (by decide)
    have l1 : Nat.log2 10 = 3 := by decide
    have l2 : Nat.log2 (10 ^ 53) = 176 := by decide +kernel
    have l2' : Nat.log2 100000000000000000000000000000000000000000000000000000 = 176 := by decide +kernel
    have mb : ∀ b : Bool, okMul 41 (if b = true then 1 else 0) = true := by intro b; cases b <;> decide
    have mb' : okMul 41 (if cell < 0 then 1 else 0) = true := by split <;> decide
    rw [hg, hp]
    refine ⟨.lst [.int (if g - 10 ^ 16 > 0 then g - 10 ^ 16 else 0), .int (p * 73 + 619 * spot + 41 * (if cell < 0 then 1 else 0) + 17), .int 0], ?_, ⟨_, _, _, rfl, ?_, ?_, ?_, ?_, by decide, by decide⟩⟩
    · rw [show bDice.drop 1 = [bDice.getD 1 .pas, bDice.getD 2 .pas, bDice.getD 3 .pas] from rfl]
      have hg' := hg
      simp at hg'
      have e1 : exS (runF tb n) tb (bDice.getD 1 .pas) [.pv (.frz (ns.map PV.int)), .pv (.int spot), .pv (.int cell), .un, .un] = .nx [.pv (.frz (ns.map PV.int)), .pv (.int spot), .pv (.int cell), .pv (.int g), .un] := by
        simp [bDice, nab, binI, l1, l2, l2', hg', hg]
      rw [x_cons, e1, seq_nx]
      simp [bDice, nab, binI, l1, l2, hp, m1, m2, m3, mb, mb', line]
    · split <;> omega
    · split
      · exact Nat.le_trans (siz_mono (by omega)) (Nat.le_trans g2 (by decide))
      · decide
    · split <;> omega
    · refine Nat.le_trans (siz_lt (k := 80) ?_) (by decide)
      split <;> omega
  rw [show dDice.body = bDice.take 1 ++ bDice.drop 1 from rfl, x_append]
  have first : ∃ cell : Int, exSs (runF tb n) tb (bDice.take 1) [.pv (.frz (ns.map PV.int)), .pv (.int spot), .un, .un, .un] = .nx [.pv (.frz (ns.map PV.int)), .pv (.int spot), .pv (.int cell), .un, .un] := by
    by_cases h : spot < ns.length
    · refine ⟨ns[spot], ?_⟩
      have h2 : (spot : Int) < ns.length := by omega
      simp [bDice, h]
    · refine ⟨131 * spot + 37, ?_⟩
      simp [bDice, h, binI, m1]
  obtain ⟨cell, e1⟩ := first
  obtain ⟨d, e2, hd⟩ := key cell
  refine ⟨d, ?_, hd⟩
  show (match (exSs (runF tb n) tb (bDice.take 1) [.pv (.frz (ns.map PV.int)), .pv (.int spot), .un, .un, .un]).seq (exSs (runF tb n) tb (bDice.drop 1)) with
    | .nx s => Rs.ok (RV.val PV.non) (outs dDice.mp s 0 _)
    | .rt r s => if isBor r then .no else .ok r (outs dDice.mp s 0 _)
    | .er x s => .er x (outs dDice.mp s 0 _)
    | _ => .no) = _
  rw [e1, seq_nx, e2]
  simp [dDice]
/-- one cell -/
def celB (gD g : Nat) (T : Int) : List CS := [.asg (.nm 2) (.cal gD [(.var 0), (.var 1)]), .fro (.nm 3) .rng [(.cst (.int T))] (turnB g)]
theorem cell1 (hD : tb gD = some dDice) {N L : Nat} {dT : Fd} (hT : tb gT = some dT) (h1 : dT.np = 1) (h2 : dT.dfl = []) (h3 : dT.mp = [0]) (t : Turn tb (N + 1) gT L) (T : Nat) (hT0 : 0 < T) (hTL : T * L ≤ 9000) (hT1 : T ≤ 1000) (ns : List Int) (i : Nat) (hi : i < 100) (x2 x3 : Slot) (tl : Sg) :
    ∃ (d y : PV), exSs (runF tb (N + 1)) tb (celB gD gT T) (.pv (.frz (ns.map PV.int)) :: .pv (.int i) :: x2 :: x3 :: tl) = .nx (.pv (.frz (ns.map PV.int)) :: .pv (.int i) :: .own false d :: .pv y :: tl) := by
  obtain ⟨d, e, hd⟩ := diceG hD N ns i hi
  have xs : (List.range T).map (fun (i : Nat) => PV.int i) = PV.int 0 :: ((List.range (T - 1)).map fun (i : Nat) => PV.int (i + 1 : Nat)) := by
    obtain ⟨m, rfl⟩ : ∃ m, T = m + 1 := ⟨T - 1, by omega⟩
    rw [List.range_succ_eq_map, List.map_cons, List.map_map]
    rfl
  obtain ⟨d', y, e2⟩ := turns1 hT h1 h2 h3 t (.pv (.frz (ns.map PV.int))) (.pv (.int i)) tl ((List.range (T - 1)).map fun (i : Nat) => PV.int (i + 1 : Nat)) (.int 0) true 0 d x3 hd (by rw [List.length_map, List.length_range, show T - 1 + 1 = T by omega]; omega)
  refine ⟨d', y, ?_⟩
  have e4 : exS (runF tb (N + 1)) tb (.asg (.nm 2) (.cal gD [(.var 0), (.var 1)])) (.pv (.frz (ns.map PV.int)) :: .pv (.int i) :: x2 :: x3 :: tl) = .nx (.pv (.frz (ns.map PV.int)) :: .pv (.int i) :: .own true d :: x3 :: tl) := by
    simp [hD, dDice, e]
  unfold celB
  rw [x_cons, e4, seq_nx, x_cons, x_fro' (runF tb (N + 1)) tb _ (rs := [.val (.int T)]) (l := [.int T]) (xs := (List.range T).map fun (i : Nat) => PV.int i) (s1 := .pv (.frz (ns.map PV.int)) :: .pv (.int i) :: .own true d :: x3 :: tl) (by simp) rfl (it_rngN T (by omega)), xs, e2]
  simp
theorem cells1 (hD : tb gD = some dDice) {N L : Nat} {dT : Fd} (hT : tb gT = some dT) (h1 : dT.np = 1) (h2 : dT.dfl = []) (h3 : dT.mp = [0]) (t : Turn tb (N + 1) gT L) (T : Nat) (hT0 : 0 < T) (hTL : T * L ≤ 9000) (hT1 : T ≤ 1000) (ns : List Int) (tl : Sg) :
    ∀ (is : List Nat) (i : Nat), i < 100 → (∀ j ∈ is, j < 100) → ∀ x1 x2 x3 : Slot, ∃ (c d y : PV), frGo (.nm 1) (exSs (runF tb (N + 1)) tb (celB gD gT T)) ((i :: is).map fun (i : Nat) => PV.int i) (.pv (.frz (ns.map PV.int)) :: x1 :: x2 :: x3 :: tl) = .nx (.pv (.frz (ns.map PV.int)) :: .pv c :: .own false d :: .pv y :: tl)
  | [], i, hi, _, x1, x2, x3 => by
    obtain ⟨d, y, e⟩ := cell1 hD hT h1 h2 h3 t T hT0 hTL hT1 ns i hi x2 x3 tl
    refine ⟨.int i, d, y, ?_⟩
    rw [List.map_cons, frGo]
    simp [e, frGo]
  | j :: is, i, hi, h, x1, x2, x3 => by
    obtain ⟨d, y, e⟩ := cell1 hD hT h1 h2 h3 t T hT0 hTL hT1 ns i hi x2 x3 tl
    obtain ⟨c, d2, y2, e2⟩ := cells1 hD hT h1 h2 h3 t T hT0 hTL hT1 ns tl is j (h j (by simp)) (fun q hq => h q (by simp [hq])) (.pv (.int i)) (.own false d) (.pv y)
    refine ⟨c, d2, y2, ?_⟩
    rw [List.map_cons, frGo]
    simp [e]
    simpa using e2
/-- the tail behind the cells, run over what is not known -/
def tailA (tb : Nat → Option Fd) (gP N : Nat) (b : List CS) (k : Nat) : Bool := match exSs (runA tb gP [] N) (tbA tb []) b (.pv (.dic 0) :: .pv (.dic 1) :: .own false (.dic 2) :: .pv (.dic 3) :: List.replicate k .un) with
  | .rt (.val (.bl true)) _ => true
  | _ => false
def headB (K : Int) (gD g : Nat) (T : Int) : CS := .fro (.nm 1) .rng [(.bui .max [(.cst (.int 1)), (.bui .min [(.cst (.int K)), (.bui .len [(.bor 0)])])])] (celB gD g T)
theorem lawG (hk : gP ≠ MDNO) (ha : isAbs tb = false) (hdf : ∀ g d, tb g = some d → PV.nodL d.dfl = true) (hD : tb gD = some dDice) {N L gL k : Nat} {dT dL : Fd} (hT : tb gT = some dT) (h1 : dT.np = 1) (h2 : dT.dfl = []) (h3 : dT.mp = [0]) (t : Turn tb (N + 1) gT L) (K T : Nat) (hK : 0 < K) (hK1 : K ≤ 100) (hT0 : 0 < T) (hTL : T * L ≤ 9000) (hT1 : T ≤ 1000)
    {tail : List CS} (hL : tb gL = some dL) (hb : dL.body = headB K gD gT T :: tail) (hn : dL.np = 1) (hN : dL.N.length = k + 4) (htail : tailA tb gP (N + 1) tail k = true) (ns : List Int) :
    ∃ s, runF tb (N + 2) gL [.pv (.frz (ns.map PV.int))] = .ok (.val (.bl true)) s := by
  rw [run1 hL (by rw [hn]; rfl), hb, hn, hN]
  obtain ⟨n, hn1, hn2⟩ : ∃ n : Nat, (if (if ((ns.map PV.int).length : Int) < (K : Int) then ((ns.map PV.int).length : Int) else (K : Int)) > 1 then (if ((ns.map PV.int).length : Int) < (K : Int) then ((ns.map PV.int).length : Int) else (K : Int)) else 1) = ((n + 1 : Nat) : Int) ∧ n + 1 ≤ 100 := by
    refine ⟨(if (if ((ns.map PV.int).length : Int) < (K : Int) then ((ns.map PV.int).length : Int) else (K : Int)) > 1 then (if ((ns.map PV.int).length : Int) < (K : Int) then ((ns.map PV.int).length : Int) else (K : Int)) else 1).toNat - 1, ?_, ?_⟩
    · split <;> split <;> omega
    · split <;> split <;> omega
  have xs : List.range (n + 1) = 0 :: (List.range n).map (· + 1) := by rw [List.range_succ_eq_map]
  obtain ⟨c, d, y, e⟩ := cells1 hD hT h1 h2 h3 t T hT0 hTL hT1 ns (List.replicate k .un) ((List.range n).map (· + 1)) 0 (by omega) (fun j hj => by
    obtain ⟨q, hq, rfl⟩ := List.mem_map.mp hj
    have := List.mem_range.mp hq
    omega) .un .un .un
  rw [← xs] at e
  have s0 : exS (runF tb (N + 1)) tb (headB K gD gT T) (.pv (.frz (ns.map PV.int)) :: .un :: .un :: .un :: List.replicate k .un) = .nx (.pv (.frz (ns.map PV.int)) :: .pv c :: .own false d :: .pv y :: List.replicate k .un) := by
    unfold headB
    rw [x_fro' (runF tb (N + 1)) tb _ (rs := [.val (.int ((n + 1 : Nat) : Int))]) (l := [.int ((n + 1 : Nat) : Int)]) (s1 := .pv (.frz (ns.map PV.int)) :: .un :: .un :: .un :: List.replicate k .un) (by simp at hn1 ⊢; exact hn1) rfl (it_rngN (n + 1) (by omega)), e]
  have un4 : ([.pv (.frz (ns.map PV.int))] : Sg) ++ List.replicate (k + 4 - 1) .un = .pv (.frz (ns.map PV.int)) :: .un :: .un :: .un :: List.replicate k .un := by
    rw [show k + 4 - 1 = k + 1 + 1 + 1 by omega, List.replicate_succ, List.replicate_succ, List.replicate_succ]
    rfl
  rw [un4, x_cons, s0, seq_nx]
  let D : Nat → PV := fun j => match j with
    | 0 => .frz (ns.map PV.int)
    | 1 => c
    | 2 => d
    | _ => y
  have sim := simSs (ρ := fun _ => 0) (D := D) (cA := runA tb gP [] (N + 1)) (cB := runF tb (N + 1)) (tA := tbA tb []) (tB := tb) ⟨fun g as => runA_sim hk (fun n j y l _ _ _ hj => by simp at hj) (fun k n h => by simp at h) ha hdf (N + 1) g as, fun g d e => ?_, ha, tbA_abs.1, fun k n h => by rw [tbA_abs.2] at h; simp at h⟩ tail (.pv (.dic 0) :: .pv (.dic 1) :: .own false (.dic 2) :: .pv (.dic 3) :: List.replicate k .un)
  · have er : resG (fun _ => 0) D (.pv (.dic 0) :: .pv (.dic 1) :: .own false (.dic 2) :: .pv (.dic 3) :: List.replicate k .un) = .pv (.frz (ns.map PV.int)) :: .pv c :: .own false d :: .pv y :: List.replicate k .un := by
      show Slot.pv (D 0) :: Slot.pv (D 1) :: Slot.own false (D 2) :: Slot.pv (D 3) :: resG _ _ (List.replicate k .un) = _
      rw [resG_un]
      rfl
    rw [er] at sim
    unfold tailA at htail
    split at htail
    · rename_i s1 e1
      rw [e1] at sim
      rw [show exSs (runF tb (N + 1)) tb tail _ = .rt (.val (.bl true)) _ from sim]
      exact ⟨_, rfl⟩
    · cases htail
  · unfold tbA at e
    split at e
    · rename_i hM2
      cases e
      refine .inr ⟨rfl, fun as => ?_⟩
      unfold runA
      rw [if_neg (fun q => hk (by rw [← q, hM2])), if_pos hM2]
    · exact .inl ⟨e, hdf g d e⟩
end
def dflB (rs : List Row) (is : List Fd) : Bool := rs.all (fun r => PV.nodL r.d.dfl) && is.all fun d => PV.nodL d.dfl
theorem dfl_nod {rs : List Row} {is : List Fd} (h : dflB rs is = true) : ∀ g d, tbOf rs is g = some d → PV.nodL d.dfl = true := by
  intro g d hd
  unfold dflB at h
  rw [Bool.and_eq_true] at h
  unfold tbOf at hd
  rcases List.mem_append.mp (List.mem_of_getElem? hd) with q | q
  · obtain ⟨r, h1, rfl⟩ := List.mem_map.mp q
    exact List.all_eq_true.mp h.1 r h1
  · exact List.all_eq_true.mp h.2 d q
end Mp

/-! MpLaw2: laws that roll dice, with statements ahead of the cells and further arguments of a turn. -/
namespace Mp
open PySem
section
variable {tb : Nat → Option Fd} {cl : Cl} {gR gP gD gT : Nat}
/-- what is asked of a turn with further arguments -/
def Turn2 (tb : Nat → Option Fd) (N g L : Nat) (vs : List PV) : Prop := ∀ M d, DK M d → M ≤ 9000 → ∃ d' t, runF tb N g (.own false d :: vs.map Slot.pv) = .ok (.val (.bl true)) (.own false d' :: t) ∧ DK (M + L) d'
def turnB2 (g j : Nat) (is : List Nat) : List CS := [.ite (.notT (.tru (.cal g ((.bor j) :: is.map CE.var)))) [.ret (.cst (.bl false))] []]
theorem give_vals : ∀ (vs : List PV) (t s : Sg), giveBack (vs.map RV.val) t s = s
  | [], _, _ => by unfold giveBack; rfl
  | v :: vs, [], _ => by unfold giveBack; rfl
  | v :: vs, a :: t, s => by
    show giveBack (vs.map RV.val) t s = s
    exact give_vals vs t s
theorem args_vals (s : Sg) (mp : List Nat) : ∀ (k : Nat) (vs : List PV), argSlots s mp k (vs.map RV.val) = some (vs.map Slot.pv)
  | _, [] => rfl
  | k, v :: vs => by
    rw [List.map_cons]
    unfold argSlots
    rw [args_vals s mp (k + 1) vs]
    rfl
theorem bors_vals : ∀ vs : List PV, bors (vs.map RV.val) = []
  | [] => rfl
  | v :: vs => by
    show bors (vs.map RV.val) = []
    exact bors_vals vs
/-- the slots is hold the values vs; read so they leave s' -/
def HasW : Sg → List Nat → List PV → Sg → Prop
  | s, [], [], s' => s' = s
  | s, i :: is, v :: vs, s' => (s[i]? = some (.pv v) ∧ HasW s is vs s') ∨ ∃ t, s[i]? = some (.own t v) ∧ v.mut = false ∧ HasW (s.set i (.pv v)) is vs s'
  | _, _, _, _ => False
theorem vars_ev : ∀ {is : List Nat} {vs : List PV} {s s' : Sg}, HasW s is vs s' → evEs cl tb (is.map CE.var) s = .ok (vs.map RV.val) s'
  | [], [], s, s', h => by obtain rfl := (show s' = s from h); simp only [List.map_nil, evEs]
  | [], _ :: _, _, _, h => h.elim
  | _ :: _, [], _, _, h => h.elim
  | i :: is, v :: vs, s, s', h => by
    rw [List.map_cons]
    simp only [evEs, evE]
    rcases h with ⟨h1, h2⟩ | ⟨t, h1, h2, h3⟩
    · rw [h1]
      show (evEs cl tb (is.map CE.var) s).bind _ = _
      rw [vars_ev h2]
      rfl
    · rw [h1]
      dsimp only
      rw [if_neg (by rw [h2]; simp)]
      show (evEs cl tb (is.map CE.var) (s.set i (.pv v))).bind _ = _
      rw [vars_ev h3]
      rfl
theorem hasW_len : ∀ {is : List Nat} {vs : List PV} {s s' : Sg}, HasW s is vs s' → s'.length = s.length
  | [], [], s, s', h => by obtain rfl := (show s' = s from h); rfl
  | [], _ :: _, _, _, h => h.elim
  | _ :: _, [], _, _, h => h.elim
  | i :: is, v :: vs, s, s', h => by
    rcases h with ⟨_, h2⟩ | ⟨t, _, _, h3⟩
    · exact hasW_len h2
    · rw [hasW_len h3, List.length_set]
theorem hasW_app {t : Sg} : ∀ {is : List Nat} {vs : List PV} {s s' : Sg}, HasW s is vs s' → HasW (s ++ t) is vs (s' ++ t)
  | [], [], s, s', h => by obtain rfl := (show s' = s from h); exact rfl
  | [], _ :: _, _, _, h => h.elim
  | _ :: _, [], _, _, h => h.elim
  | i :: is, v :: vs, s, s', h => by
    rcases h with ⟨h1, h2⟩ | ⟨u, h1, h2, h3⟩
    · exact .inl ⟨by rw [List.getElem?_append_left (List.getElem?_eq_some_iff.mp h1).1]; exact h1, hasW_app h2⟩
    · have hi := (List.getElem?_eq_some_iff.mp h1).1
      exact .inr ⟨u, by rw [List.getElem?_append_left hi]; exact h1, h2, by rw [List.set_append_left _ _ hi]; exact hasW_app h3⟩
theorem turn_step {dT : Fd} {s0 s t : Sg} {j : Nat} {f : Bool} {d d' : PV} {is : List Nat} {vs : List PV} (hj0 : s0[j]? = some (.own f d)) (hj : s[j]? = some (.own f d)) (hv : HasW s0 is vs s) (hT : tb gT = some dT) (h1 : dT.np = vs.length + 1) (h2 : dT.dfl = []) (h3 : dT.mp = [0])
    (run : cl gT (.own false d :: vs.map Slot.pv) = .ok (.val (.bl true)) (.own false d' :: t)) : exSs cl tb (turnB2 gT j is) s0 = .nx (s.set j (.own false d')) := by
  have ec : evE cl tb (.cal gT ((.bor j) :: is.map CE.var)) s0 = .ok (.val (.bl true)) (s.set j (.own false d')) := by
    simp only [evE, evEs]
    rw [hj0]
    show (((evEs cl tb (is.map CE.var) s0).bind fun rs s2 => Rs.ok (RV.bor j :: rs) s2).bind fun rs s1 => callG cl tb gT rs s1) = _
    rw [vars_ev hv]
    show callG cl tb gT (.bor j :: vs.map RV.val) s = _
    unfold callG
    rw [hT]
    dsimp only
    rw [if_pos ⟨by rw [List.length_cons, List.length_map, h1]; exact Nat.le_refl _, by rw [List.length_cons, List.length_map, h1]; omega, by show (j :: bors (vs.map RV.val)).Nodup; rw [bors_vals]; simp⟩]
    have ea : argSlots s dT.mp 0 (.bor j :: vs.map RV.val) = some (.own false d :: vs.map Slot.pv) := by
      rw [h3]
      unfold argSlots
      rw [args_vals s [0] 1 vs]
      dsimp only
      rw [if_pos (by decide), hj]
    rw [ea]
    dsimp only
    rw [h2]
    simp only [List.drop_nil, List.map_nil, List.append_nil]
    rw [run]
    show Rs.ok (RV.val (PV.bl true)) (giveBack (.bor j :: vs.map RV.val) (.own false d' :: t) s) = _
    show Rs.ok _ (giveBack (vs.map RV.val) t (s.set j (.own false d'))) = _
    rw [give_vals]
  unfold turnB2
  rw [x_cons]
  have e1 : exS cl tb (.ite (.notT (.tru (.cal gT ((.bor j) :: is.map CE.var)))) [.ret (.cst (.bl false))] []) s0 = .nx (s.set j (.own false d')) := by
    have e2 : evE cl tb (.notT (.tru (.cal gT ((.bor j) :: is.map CE.var)))) s0 = .ok (.val (.bl false)) (s.set j (.own false d')) := by
      have e3 : evE cl tb (.notT (.tru (.cal gT ((.bor j) :: is.map CE.var)))) s0 = (asB (evE cl tb (.cal gT ((.bor j) :: is.map CE.var)) s0)).bind fun c s1 => .ok (.val (.bl !c)) s1 := by simp only [evE]
      rw [e3, ec]
      rfl
    have e4 : exS cl tb (.ite (.notT (.tru (.cal gT ((.bor j) :: is.map CE.var)))) [.ret (.cst (.bl false))] []) s0 = toSs (asB (evE cl tb (.notT (.tru (.cal gT ((.bor j) :: is.map CE.var)))) s0)) fun c s1 => if c then exSs cl tb [.ret (.cst (.bl false))] s1 else exSs cl tb [] s1 := by simp only [exS]
    rw [e4, e2]
    show exSs cl tb [] (s.set j (.own false d')) = _
    simp only [exSs]
  rw [e1, seq_nx]
  simp only [exSs]
theorem st_set {pre l : Sg} {m : Nat} (h : pre.length = m) (k : Nat) (y : Slot) : (pre ++ l).set (m + k) y = pre ++ l.set k y := by
  rw [List.set_append_right _ _ (by omega), h, Nat.add_sub_cancel_left]
theorem st_at {pre l : Sg} {m : Nat} (h : pre.length = m) (k : Nat) : (pre ++ l)[m + k]? = l[k]? := by
  rw [List.getElem?_append_right (by omega), h, Nat.add_sub_cancel_left]
theorem fro_step {tg : Nat} {b : Sg → Ss} {x : PV} {xs : List PV} {s : Sg} (h : tg < s.length) : frGo (.nm tg) b (x :: xs) s = match b (s.set tg (.pv x)) with
    | .nx s2 => frGo (.nm tg) b xs s2
    | .ct s2 => frGo (.nm tg) b xs s2
    | .bk s2 => .nx s2
    | r => r := by
  rw [frGo]
  unfold Tg.store
  first
    | (rw [if_pos h]; done)
    | (rw [if_pos h]; dsimp only; cases b (s.set tg (.pv x)) <;> rfl)
theorem fro_nil {tg : Tg} {b : Sg → Ss} {s : Sg} : frGo tg b [] s = .nx s := by rw [frGo]
theorem turns2 {N L m : Nat} {dT : Fd} {pre : Sg} {is : List Nat} {vs : List PV} (hp : pre.length = m) (hv : HasW pre is vs pre) (hT : tb gT = some dT) (h1 : dT.np = vs.length + 1) (h2 : dT.dfl = []) (h3 : dT.mp = [0]) (t : Turn2 tb N gT L vs) (x1 : Slot) (tl : Sg) :
    ∀ (xs : List PV) (x : PV) (f : Bool) (M : Nat) (d : PV) (x3 : Slot) (pr : Sg), HasW pr is vs pre → DK M d → M + (xs.length + 1) * L ≤ 9000 → ∃ (d' y : PV), frGo (.nm (m + 2)) (exSs (runF tb N) tb (turnB2 gT (m + 1) is)) (x :: xs) (pr ++ (x1 :: .own f d :: x3 :: tl)) = .nx (pre ++ (x1 :: .own false d' :: .pv y :: tl)) := by
  have one : ∀ (x : PV) (f : Bool) (M : Nat) (d : PV) (pr : Sg), HasW pr is vs pre → DK M d → M ≤ 9000 → ∃ d', exSs (runF tb N) tb (turnB2 gT (m + 1) is) (pr ++ (x1 :: .own f d :: .pv x :: tl)) = .nx (pre ++ (x1 :: .own false d' :: .pv x :: tl)) ∧ DK (M + L) d' := fun x f M d pr hw hd hM => by
    obtain ⟨d1, t1, e, hk⟩ := t M d hd hM
    refine ⟨d1, ?_, hk⟩
    rw [turn_step (j := m + 1) (f := f) (d := d) (by rw [st_at ((hasW_len hw).symm.trans hp)]; rfl) (by rw [st_at hp]; rfl) (hasW_app hw) hT h1 h2 h3 e, st_set hp]
    rfl
  intro xs
  induction xs with
  | nil =>
    intro x f M d x3 pr hw hd hM
    have hpr : pr.length = m := (hasW_len hw).symm.trans hp
    obtain ⟨d1, e, hk⟩ := one x f M d pr hw hd (by omega)
    refine ⟨d1, x, ?_⟩
    rw [fro_step (by simp; omega), st_set hpr]
    show (match exSs (runF tb N) tb (turnB2 gT (m + 1) is) (pr ++ (x1 :: .own f d :: .pv x :: tl)) with
      | .nx s2 => frGo (.nm (m + 2)) _ [] s2
      | .ct s2 => frGo (.nm (m + 2)) _ [] s2
      | .bk s2 => .nx s2
      | r => r) = _
    rw [e]
    exact fro_nil
  | cons x' xs ih =>
    intro x f M d x3 pr hw hd hM
    have hpr : pr.length = m := (hasW_len hw).symm.trans hp
    rw [List.length_cons, Nat.succ_mul] at hM
    obtain ⟨d1, e, hk⟩ := one x f M d pr hw hd (by omega)
    obtain ⟨d2, y, e2⟩ := ih x' false (M + L) d1 (.pv x) pre hv hk (by omega)
    refine ⟨d2, y, ?_⟩
    rw [fro_step (by simp; omega), st_set hpr]
    show (match exSs (runF tb N) tb (turnB2 gT (m + 1) is) (pr ++ (x1 :: .own f d :: .pv x :: tl)) with
      | .nx s2 => frGo (.nm (m + 2)) _ (x' :: xs) s2
      | .ct s2 => frGo (.nm (m + 2)) _ (x' :: xs) s2
      | .bk s2 => .nx s2
      | r => r) = _
    rw [e]
    exact e2
/-- one cell -/
def celB2 (gD g m : Nat) (is : List Nat) (T : Int) : List CS := [.asg (.nm (m + 1)) (.cal gD [(.var 0), (.var m)]), .fro (.nm (m + 2)) .rng [(.cst (.int T))] (turnB2 g (m + 1) is)]
theorem cell2 (hD : tb gD = some dDice) {N L m : Nat} {dT : Fd} {ps pr : Sg} {is : List Nat} {vs : List PV} (ns : List Int) (hp : ps.length + 1 = m) (hw : HasW (.pv (.frz (ns.map PV.int)) :: pr) is vs (.pv (.frz (ns.map PV.int)) :: ps)) (hv : HasW (.pv (.frz (ns.map PV.int)) :: ps) is vs (.pv (.frz (ns.map PV.int)) :: ps)) (hT : tb gT = some dT) (h1 : dT.np = vs.length + 1) (h2 : dT.dfl = []) (h3 : dT.mp = [0]) (t : Turn2 tb (N + 1) gT L vs) (T : Nat) (hT0 : 0 < T) (hTL : T * L ≤ 9000) (hT1 : T ≤ 1000) (i : Nat) (hi : i < 100) (x2 x3 : Slot) (tl : Sg) :
    ∃ (d y : PV), exSs (runF tb (N + 1)) tb (celB2 gD gT m is T) ((.pv (.frz (ns.map PV.int)) :: pr) ++ (.pv (.int i) :: x2 :: x3 :: tl)) = .nx ((.pv (.frz (ns.map PV.int)) :: ps) ++ (.pv (.int i) :: .own false d :: .pv y :: tl)) := by
  have hp0 : (Slot.pv (.frz (ns.map PV.int)) :: ps).length = m := by simpa using hp
  have hp' : (Slot.pv (.frz (ns.map PV.int)) :: pr).length = m := (hasW_len hw).symm.trans hp0
  obtain ⟨d, e, hd⟩ := diceG hD N ns i hi
  have xs : (List.range T).map (fun (i : Nat) => PV.int i) = PV.int 0 :: ((List.range (T - 1)).map fun (i : Nat) => PV.int (i + 1 : Nat)) := by
    obtain ⟨m, rfl⟩ : ∃ m, T = m + 1 := ⟨T - 1, by omega⟩
    rw [List.range_succ_eq_map, List.map_cons, List.map_map]
    rfl
  obtain ⟨d', y, e2⟩ := turns2 hp0 hv hT h1 h2 h3 t (.pv (.int i)) tl ((List.range (T - 1)).map fun (i : Nat) => PV.int (i + 1 : Nat)) (.int 0) true 0 d x3 _ hw hd (by rw [List.length_map, List.length_range, show T - 1 + 1 = T by omega]; omega)
  refine ⟨d', y, ?_⟩
  have e4 : exS (runF tb (N + 1)) tb (.asg (.nm (m + 1)) (.cal gD [(.var 0), (.var m)])) ((.pv (.frz (ns.map PV.int)) :: pr) ++ (.pv (.int i) :: x2 :: x3 :: tl)) = .nx ((.pv (.frz (ns.map PV.int)) :: pr) ++ (.pv (.int i) :: .own true d :: x3 :: tl)) := by
    have a0 : ((.pv (.frz (ns.map PV.int)) :: pr) ++ (.pv (.int i) :: x2 :: x3 :: tl) : Sg)[0]? = some (.pv (.frz (ns.map PV.int))) := rfl
    have am : ((.pv (.frz (ns.map PV.int)) :: pr) ++ (.pv (.int i) :: x2 :: x3 :: tl) : Sg)[m]? = some (.pv (.int i)) := by
      have := st_at (l := (.pv (.int i) :: x2 :: x3 :: tl)) hp' 0
      rw [Nat.add_zero] at this
      rw [this]; rfl
    have ec : evE (runF tb (N + 1)) tb (.cal gD [(.var 0), (.var m)]) ((.pv (.frz (ns.map PV.int)) :: pr) ++ (.pv (.int i) :: x2 :: x3 :: tl)) = .ok (.frs d) ((.pv (.frz (ns.map PV.int)) :: pr) ++ (.pv (.int i) :: x2 :: x3 :: tl)) := by
      have hv2 : evEs (runF tb (N + 1)) tb ([0, m].map CE.var) ((.pv (.frz (ns.map PV.int)) :: pr) ++ (.pv (.int i) :: x2 :: x3 :: tl)) = .ok ([.frz (ns.map PV.int), .int i].map RV.val) ((.pv (.frz (ns.map PV.int)) :: pr) ++ (.pv (.int i) :: x2 :: x3 :: tl)) := vars_ev (.inl ⟨a0, .inl ⟨am, rfl⟩⟩)
      simp only [evE]
      show (evEs (runF tb (N + 1)) tb ([0, m].map CE.var) _).bind _ = _
      rw [hv2]
      show callG (runF tb (N + 1)) tb gD [.val (.frz (ns.map PV.int)), .val (.int i)] _ = _
      unfold callG
      rw [hD]
      dsimp only
      rw [if_pos ⟨(by show (2 : Nat) ≤ 2; decide), (by show (2 : Nat) ≤ 2; decide), by simp [bors]⟩]
      have ea := args_vals ((.pv (.frz (ns.map PV.int)) :: pr) ++ (.pv (.int i) :: x2 :: x3 :: tl)) dDice.mp 0 [.frz (ns.map PV.int), .int i]
      rw [show [RV.val (.frz (ns.map PV.int)), RV.val (.int i)] = [PV.frz (ns.map PV.int), .int i].map RV.val from rfl, ea]
      dsimp only
      have e' : runF tb (N + 1) gD (([PV.frz (ns.map PV.int), .int i].map Slot.pv) ++ (dDice.dfl.drop (([PV.frz (ns.map PV.int), PV.int i].map RV.val).length + dDice.dfl.length - dDice.np)).map Slot.pv) = _ := e
      rw [e']
      show Rs.ok (RV.frs d) (giveBack _ _ _) = _
      rw [give_vals]
    have es : exS (runF tb (N + 1)) tb (.asg (.nm (m + 1)) (.cal gD [(.var 0), (.var m)])) ((.pv (.frz (ns.map PV.int)) :: pr) ++ (.pv (.int i) :: x2 :: x3 :: tl)) = toSs (evE (runF tb (N + 1)) tb (.cal gD [(.var 0), (.var m)]) ((.pv (.frz (ns.map PV.int)) :: pr) ++ (.pv (.int i) :: x2 :: x3 :: tl))) fun r s1 => match (Tg.nm (m + 1)).asg r s1 with
      | some s2 => .nx s2
      | none => .no := by unfold exS; rfl
    rw [es, ec]
    have ha : (Tg.nm (m + 1)).asg (.frs d) ((.pv (.frz (ns.map PV.int)) :: pr) ++ (.pv (.int i) :: x2 :: x3 :: tl)) = some ((.pv (.frz (ns.map PV.int)) :: pr) ++ (.pv (.int i) :: .own true d :: x3 :: tl)) := by
      unfold Tg.asg
      dsimp only
      rw [if_pos (by rw [List.length_append, hp']; simp), st_set hp']
      rfl
    show (match (Tg.nm (m + 1)).asg (.frs d) ((.pv (.frz (ns.map PV.int)) :: pr) ++ (.pv (.int i) :: x2 :: x3 :: tl)) with
      | some s2 => Ss.nx s2
      | none => .no) = _
    rw [ha]
  unfold celB2
  rw [x_cons, e4, seq_nx, x_cons, x_fro' (runF tb (N + 1)) tb _ (rs := [.val (.int T)]) (l := [.int T]) (xs := (List.range T).map fun (i : Nat) => PV.int i) (s1 := (.pv (.frz (ns.map PV.int)) :: pr) ++ (.pv (.int i) :: .own true d :: x3 :: tl)) (by simp [evEs, evE, Rs.bind, PV.nod]) rfl (it_rngN T (by omega)), xs, e2]
  simp
theorem cells2 (hD : tb gD = some dDice) {N L m : Nat} {dT : Fd} {ps : Sg} {is : List Nat} {vs : List PV} (ns : List Int) (hp : ps.length + 1 = m) (hv : HasW (.pv (.frz (ns.map PV.int)) :: ps) is vs (.pv (.frz (ns.map PV.int)) :: ps)) (hT : tb gT = some dT) (h1 : dT.np = vs.length + 1) (h2 : dT.dfl = []) (h3 : dT.mp = [0]) (t : Turn2 tb (N + 1) gT L vs) (T : Nat) (hT0 : 0 < T) (hTL : T * L ≤ 9000) (hT1 : T ≤ 1000) (tl : Sg) :
    ∀ (js : List Nat) (i : Nat) (pr : Sg), HasW (.pv (.frz (ns.map PV.int)) :: pr) is vs (.pv (.frz (ns.map PV.int)) :: ps) → i < 100 → (∀ j ∈ js, j < 100) → ∀ x1 x2 x3 : Slot, ∃ (c d y : PV), frGo (.nm m) (exSs (runF tb (N + 1)) tb (celB2 gD gT m is T)) ((i :: js).map fun (i : Nat) => PV.int i) ((.pv (.frz (ns.map PV.int)) :: pr) ++ (x1 :: x2 :: x3 :: tl)) = .nx ((.pv (.frz (ns.map PV.int)) :: ps) ++ (.pv c :: .own false d :: .pv y :: tl)) := by
  have hp0 : (Slot.pv (.frz (ns.map PV.int)) :: ps).length = m := by simpa using hp
  have put : ∀ (pr : Sg) (hp' : (Slot.pv (.frz (ns.map PV.int)) :: pr).length = m) (x1 x2 x3 : Slot) (i : Nat), ((.pv (.frz (ns.map PV.int)) :: pr) ++ (x1 :: x2 :: x3 :: tl) : Sg).set m (.pv (.int i)) = (.pv (.frz (ns.map PV.int)) :: pr) ++ (.pv (.int i) :: x2 :: x3 :: tl) := fun pr hp' x1 x2 x3 i => by
    have := st_set (l := (x1 :: x2 :: x3 :: tl)) hp' 0 (.pv (.int i))
    rw [Nat.add_zero] at this
    rw [this]; rfl
  intro js
  induction js with
  | nil =>
    intro i pr hw hi _ x1 x2 x3
    have hp' : (Slot.pv (.frz (ns.map PV.int)) :: pr).length = m := (hasW_len hw).symm.trans hp0
    obtain ⟨d, y, e⟩ := cell2 hD ns hp hw hv hT h1 h2 h3 t T hT0 hTL hT1 i hi x2 x3 tl
    refine ⟨.int i, d, y, ?_⟩
    rw [List.map_cons, fro_step (by rw [List.length_append, hp']; simp), put _ hp', e]
    exact fro_nil
  | cons j js ih =>
    intro i pr hw hi h x1 x2 x3
    have hp' : (Slot.pv (.frz (ns.map PV.int)) :: pr).length = m := (hasW_len hw).symm.trans hp0
    obtain ⟨d, y, e⟩ := cell2 hD ns hp hw hv hT h1 h2 h3 t T hT0 hTL hT1 i hi x2 x3 tl
    obtain ⟨c, d2, y2, e2⟩ := ih j ps hv (h j (by simp)) (fun q hq => h q (by simp [hq])) (.pv (.int i)) (.own false d) (.pv y)
    refine ⟨c, d2, y2, ?_⟩
    rw [List.map_cons, fro_step (by rw [List.length_append, hp']; simp), put _ hp', e]
    exact e2
def headB2 (K : Int) (gD g m : Nat) (is : List Nat) (T : Int) : CS := .fro (.nm m) .rng [(.bui .max [(.cst (.int 1)), (.bui .min [(.cst (.int K)), (.bui .len [(.bor 0)])])])] (celB2 gD g m is T)
/-- a slot that hangs on nothing -/
def nodS : Slot → Bool
  | .un => true
  | .pv x => x.nod
  | .own _ x => x.nod
  | .lam _ => true
def isUn : Slot → Bool
  | .un => true
  | _ => false
theorem nodS_res {ρ : Nat → Nat} {D : Nat → PV} : ∀ {s : Sg}, s.all nodS = true → resG ρ D s = s
  | [], _ => rfl
  | x :: s, h => by
    rw [List.all_cons, Bool.and_eq_true] at h
    have e := nodS_res (ρ := ρ) (D := D) h.2
    show resS ρ D x :: resG ρ D s = _
    rw [e]
    cases x with
    | un => rfl
    | lam _ => rfl
    | pv x => show Slot.pv (res ρ D x) :: s = _; rw [res_nod x h.1]
    | own t x => show Slot.own t (res ρ D x) :: s = _; rw [res_nod x h.1]
theorem isUn_rep : ∀ {s : Sg}, s.all isUn = true → s = List.replicate s.length .un
  | [], _ => rfl
  | x :: s, h => by
    rw [List.all_cons, Bool.and_eq_true] at h
    have e := isUn_rep h.2
    cases x <;> first | (cases h.1; done) | skip
    rw [List.length_cons, List.replicate_succ, ← e]
/-- the statements ahead of the cells: what they leave -/
def preOk (q r : Nat) : Sg → Option Sg
  | .pv (.dic 0) :: t => if t.length = q + r ∧ (t.take q).all nodS = true ∧ (t.drop q).all isUn = true then some (t.take q) else none
  | _ => none
def preA (tb : Nat → Option Fd) (gP N : Nat) (b : List CS) (q r : Nat) : Option Sg := match exSs (runA tb gP [] N) (tbA tb []) b (.pv (.dic 0) :: List.replicate (q + r) .un) with
  | .nx s => preOk q r s
  | _ => none
def tailA2 (tb : Nat → Option Fd) (gP N : Nat) (ps : Sg) (b : List CS) (k : Nat) : Bool := match exSs (runA tb gP [] N) (tbA tb []) b (.pv (.dic 0) :: (ps ++ (.pv (.dic 1) :: .own false (.dic 2) :: .pv (.dic 3) :: List.replicate k .un))) with
  | .rt (.val (.bl true)) _ => true
  | _ => false
/-- the values of these slots, the first one left out, and what their reading leaves -/
def valsAt (ps : Sg) : List Nat → Option (List PV × Sg)
  | [] => some ([], ps)
  | i :: is => match i with
    | 0 => none
    | j + 1 => match ps[j]? with
      | some (.pv v) => (match valsAt ps is with
        | some (vs, p) => some (v :: vs, p)
        | none => none)
      | some (.own _ v) => if v.mut then none else (match valsAt (ps.set j (.pv v)) is with
        | some (vs, p) => some (v :: vs, p)
        | none => none)
      | _ => none
theorem valsAt_has {x : Slot} : ∀ {is : List Nat} {vs : List PV} {ps p : Sg}, valsAt ps is = some (vs, p) → HasW (x :: ps) is vs (x :: p)
  | [], vs, ps, p, h => by cases h; exact rfl
  | 0 :: is, vs, ps, p, h => by cases h
  | (j + 1) :: is, vs, ps, p, h => by
    unfold valsAt at h
    dsimp only at h
    split at h
    · rename_i v e1
      split at h
      · rename_i ws q e2
        cases h
        exact .inl ⟨by simpa using e1, valsAt_has e2⟩
      · cases h
    · rename_i t v e1
      split at h
      · cases h
      · rename_i hm
        split at h
        · rename_i ws q e2
          cases h
          exact .inr ⟨t, by simpa using e1, by simpa using hm, by rw [List.set_cons_succ]; exact valsAt_has e2⟩
        · cases h
    · cases h
theorem simA (hk : gP ≠ MDNO) (ha : isAbs tb = false) (hdf : ∀ g d, tb g = some d → PV.nodL d.dfl = true) (D : Nat → PV) (N : Nat) (b : List CS) (s : Sg) : SimS (fun _ => 0) D (exSs (runA tb gP [] N) (tbA tb []) b s) (exSs (runF tb N) tb b (resG (fun _ => 0) D s)) := by
  refine simSs (ρ := fun _ => 0) (D := D) (cA := runA tb gP [] N) (cB := runF tb N) (tA := tbA tb []) (tB := tb) ⟨fun g as => runA_sim hk (fun n j y l _ _ _ hj => by simp at hj) (fun k n h => by simp at h) ha hdf N g as, fun g d e => ?_, ha, tbA_abs.1, fun k n h => by rw [tbA_abs.2] at h; simp at h⟩ b s
  unfold tbA at e
  split at e
  · rename_i hM2
    cases e
    refine .inr ⟨rfl, fun as => ?_⟩
    cases N with
    | zero => rfl
    | succ N =>
      unfold runA
      rw [if_neg (fun q => hk (by rw [← q, hM2])), if_pos hM2]
  · exact .inl ⟨e, hdf g d e⟩
theorem lawG2 (hk : gP ≠ MDNO) (ha : isAbs tb = false) (hdf : ∀ g d, tb g = some d → PV.nodL d.dfl = true) (hD : tb gD = some dDice) {N L gL k q : Nat} {dT dL : Fd} {is : List Nat} {vs : List PV} {pr ps : Sg} (hT : tb gT = some dT) (h1 : dT.np = vs.length + 1) (h2 : dT.dfl = []) (h3 : dT.mp = [0]) (t : Turn2 tb (N + 1) gT L vs) (K T : Nat) (hK : 0 < K) (hK1 : K ≤ 100) (hT0 : 0 < T) (hTL : T * L ≤ 9000) (hT1 : T ≤ 1000)
    {pre tail : List CS} (hL : tb gL = some dL) (hb : dL.body = pre ++ headB2 K gD gT (q + 1) is T :: tail) (hn : dL.np = 1) (hN : dL.N.length = q + k + 4) (hpre : preA tb gP (N + 1) pre q (k + 3) = some pr) (hw : valsAt pr is = some (vs, ps)) (hv : valsAt ps is = some (vs, ps)) (hnd : ps.all nodS = true) (htail : tailA2 tb gP (N + 1) ps tail k = true) (ns : List Int) :
    ∃ s, runF tb (N + 2) gL [.pv (.frz (ns.map PV.int))] = .ok (.val (.bl true)) s := by
  rw [run1 hL (by rw [hn]; rfl), hb, hn, hN, x_append]
  -- ahead
  have lp : pr.length = q ∧ exSs (runF tb (N + 1)) tb pre (.pv (.frz (ns.map PV.int)) :: List.replicate (q + (k + 3)) .un) = .nx (.pv (.frz (ns.map PV.int)) :: (pr ++ List.replicate (k + 3) .un)) := by
    have sim := simA hk ha hdf (fun _ => PV.frz (ns.map PV.int)) (N + 1) pre (.pv (.dic 0) :: List.replicate (q + (k + 3)) .un)
    have er : resG (fun _ => 0) (fun _ => PV.frz (ns.map PV.int)) (.pv (.dic 0) :: List.replicate (q + (k + 3)) .un) = .pv (.frz (ns.map PV.int)) :: List.replicate (q + (k + 3)) .un := by
      show Slot.pv (PV.frz (ns.map PV.int)) :: resG _ _ (List.replicate (q + (k + 3)) .un) = _
      rw [resG_un]
    rw [er] at sim
    unfold preA at hpre
    split at hpre
    · rename_i s1 e1
      rw [e1] at sim
      unfold preOk at hpre
      split at hpre
      · rename_i t1
        split at hpre
        · rename_i hc
          obtain ⟨c1, c2, c3⟩ := hc
          cases hpre
          have et : t1 = t1.take q ++ List.replicate (k + 3) .un := by
            have h := isUn_rep c3
            rw [List.length_drop, c1, Nat.add_sub_cancel_left] at h
            rw [← h, List.take_append_drop]
          refine ⟨by rw [List.length_take, c1]; omega, ?_⟩
          rw [show exSs (runF tb (N + 1)) tb pre _ = .nx _ from sim]
          show Ss.nx (Slot.pv (PV.frz (ns.map PV.int)) :: resG _ _ t1) = _
          have e2 : resG (fun _ => 0) (fun _ => PV.frz (ns.map PV.int)) t1 = t1 := by
            conv => lhs; rw [et, resG_app, resG_un, nodS_res c2]
            exact et.symm
          rw [e2]
          congr 2
        · cases hpre
      · cases hpre
    · cases hpre
  obtain ⟨lpr, ep⟩ := lp
  have hw1 : HasW (.pv (.frz (ns.map PV.int)) :: pr) is vs (.pv (.frz (ns.map PV.int)) :: ps) := valsAt_has hw
  have lps : ps.length = q := by
    have := hasW_len hw1
    simp only [List.length_cons] at this
    omega
  have un0 : ([.pv (.frz (ns.map PV.int))] : Sg) ++ List.replicate (q + k + 4 - 1) .un = .pv (.frz (ns.map PV.int)) :: List.replicate (q + (k + 3)) .un := by
    rw [show q + k + 4 - 1 = q + (k + 3) by omega]
    rfl
  rw [un0, ep, seq_nx, x_cons]
  -- the cells
  obtain ⟨n, hn1, hn2⟩ : ∃ n : Nat, (if (if ((ns.map PV.int).length : Int) < (K : Int) then ((ns.map PV.int).length : Int) else (K : Int)) > 1 then (if ((ns.map PV.int).length : Int) < (K : Int) then ((ns.map PV.int).length : Int) else (K : Int)) else 1) = ((n + 1 : Nat) : Int) ∧ n + 1 ≤ 100 := by
    refine ⟨(if (if ((ns.map PV.int).length : Int) < (K : Int) then ((ns.map PV.int).length : Int) else (K : Int)) > 1 then (if ((ns.map PV.int).length : Int) < (K : Int) then ((ns.map PV.int).length : Int) else (K : Int)) else 1).toNat - 1, ?_, ?_⟩
    · split <;> split <;> omega
    · split <;> split <;> omega
  have xs : List.range (n + 1) = 0 :: (List.range n).map (· + 1) := by rw [List.range_succ_eq_map]
  obtain ⟨c, d, y, e⟩ := cells2 hD ns (by rw [lps]) (valsAt_has hv) hT h1 h2 h3 t T hT0 hTL hT1 (List.replicate k .un) ((List.range n).map (· + 1)) 0 pr hw1 (by omega) (fun j hj => by
    obtain ⟨q, hq, rfl⟩ := List.mem_map.mp hj
    have := List.mem_range.mp hq
    omega) .un .un .un
  rw [← xs] at e
  have u3 : (.pv (.frz (ns.map PV.int)) :: (pr ++ List.replicate (k + 3) .un) : Sg) = (.pv (.frz (ns.map PV.int)) :: pr) ++ (.un :: .un :: .un :: List.replicate k .un) := by
    rw [show k + 3 = k + 1 + 1 + 1 by omega, List.replicate_succ, List.replicate_succ, List.replicate_succ]
    rfl
  have s0 : exS (runF tb (N + 1)) tb (headB2 K gD gT (q + 1) is T) (.pv (.frz (ns.map PV.int)) :: (pr ++ List.replicate (k + 3) .un)) = .nx ((.pv (.frz (ns.map PV.int)) :: ps) ++ (.pv c :: .own false d :: .pv y :: List.replicate k .un)) := by
    unfold headB2
    rw [x_fro' (runF tb (N + 1)) tb _ (rs := [.val (.int ((n + 1 : Nat) : Int))]) (l := [.int ((n + 1 : Nat) : Int)]) (s1 := .pv (.frz (ns.map PV.int)) :: (pr ++ List.replicate (k + 3) .un)) (by simp at hn1 ⊢; exact hn1) rfl (it_rngN (n + 1) (by omega)), u3, e]
  rw [s0, seq_nx]
  -- the tail
  have sim := simA hk ha hdf (fun j => match j with
    | 0 => .frz (ns.map PV.int)
    | 1 => c
    | 2 => d
    | _ => y) (N + 1) tail (.pv (.dic 0) :: (ps ++ (.pv (.dic 1) :: .own false (.dic 2) :: .pv (.dic 3) :: List.replicate k .un)))
  have er : resG (fun _ => 0) (fun j => match j with
    | 0 => .frz (ns.map PV.int)
    | 1 => c
    | 2 => d
    | _ => y) (.pv (.dic 0) :: (ps ++ (.pv (.dic 1) :: .own false (.dic 2) :: .pv (.dic 3) :: List.replicate k .un))) = (.pv (.frz (ns.map PV.int)) :: ps) ++ (.pv c :: .own false d :: .pv y :: List.replicate k .un) := by
    show Slot.pv (.frz (ns.map PV.int)) :: resG _ _ (ps ++ _) = _
    rw [resG_app, nodS_res hnd]
    show Slot.pv (.frz (ns.map PV.int)) :: (ps ++ (Slot.pv c :: Slot.own false d :: Slot.pv y :: resG _ _ (List.replicate k .un))) = _
    rw [resG_un]
    rfl
  rw [er] at sim
  unfold tailA2 at htail
  split at htail
  · rename_i s1 e1
    rw [e1] at sim
    rw [show exSs (runF tb (N + 1)) tb tail _ = .rt (.val (.bl true)) _ from sim]
    exact ⟨_, rfl⟩
  · cases htail
theorem turnG2 {xR xP : Str} (hR : tb gR = some (dRoll xR)) (hP : tb gP = some (dPick xP gR)) (hk : gP ≠ MDNO) (ha : isAbs tb = false) (hdf : ∀ g d, tb g = some d → PV.nodL d.dfl = true) {ns : List Nat} (hn : nsOk ns = true) {N g m : Nat} {vs : List PV}
    (hg : goodA tb gP ns N g (.own false (.dic 0) :: vs.map Slot.pv) = some m) (hm : m ≤ ns.length) (hvs : PV.nodL vs = true) : Turn2 tb N g ns.length vs := fun M d hd hM =>
  turnG hR hP hk ha hdf hn hg hm (fun ρ D => by
    have q := resL_nod (ρ := ρ) (D := D) vs hvs
    rw [resL_eq] at q
    unfold resG
    rw [List.map_map]
    conv => rhs; rw [← q, List.map_map]
    rfl) hd hM
def slB : Slot → Slot → Bool
  | .un, .un => true
  | .pv x, .pv y => x.beq y
  | .own a x, .own b y => a == b && x.beq y
  | _, _ => false
def sgB : Sg → Sg → Bool
  | [], [] => true
  | x :: xs, y :: ys => slB x y && sgB xs ys
  | _, _ => false
theorem slB_eq {x y : Slot} (h : slB x y = true) : x = y := by
  cases x <;> cases y <;> first | (cases h; done) | rfl | skip
  · rw [beq_eq _ _ h]
  · obtain ⟨h1, h2⟩ := Bool.and_eq_true_iff.mp (show (_ && _) = true from h)
    rw [eq_of_beq h1, beq_eq _ _ h2]
theorem sgB_eq : ∀ {s t : Sg}, sgB s t = true → s = t
  | [], [], _ => rfl
  | [], _ :: _, h => by cases h
  | _ :: _, [], h => by cases h
  | x :: xs, y :: ys, h => by
    obtain ⟨h1, h2⟩ := Bool.and_eq_true_iff.mp (show (_ && _) = true from h)
    rw [slB_eq h1, sgB_eq h2]
def isSg (o : Option Sg) (t : Sg) : Bool := match o with
  | some s => sgB s t
  | none => false
theorem isSg_eq {o : Option Sg} {t : Sg} (h : isSg o t = true) : o = some t := by
  cases o with
  | none => cases h
  | some s => rw [sgB_eq h]
end
end Mp

namespace K41
open PySem Mp
def c_AHEAD : PV := (.str (Str.ofString "ahead"))
def c_BEHIND : PV := (.str (Str.ofString "behind"))
def c_LETTERS : PV := (.str (Str.ofString "abcdefghijklmnopqrstuvwxyz"))
def c_MAX_COUNT : PV := (.int 60)
def c_MAX_GAUGES : PV := (.int 4)
def c_MAX_HANDS : PV := (.int 4)
def c_MAX_LETTERS : PV := (.int 12)
def c_MAX_PLACES : PV := (.int 6)
def c_MAX_RULES : PV := (.int 5)
def c_NOUGHT : PV := (.tup [(.int 0), (.int 1)])
def c_ONE : PV := (.tup [(.int 1), (.int 1)])
def c_SIGNS : PV := (.str (Str.ofString "abcdefghijklmnopqrstuvwxyz0123456789."))
/-- is_integer -/
def b_is_integer : List CS := [
  .ret (.and (.bui .isi [(.bor 0), (.cst (.ty "int"))]) (.not (.bui .isi [(.bor 0), (.cst (.ty "bool"))])))]
def d_is_integer : Fd := ⟨"is_integer", ["value"], 1, [], [], b_is_integer, none, false⟩
/-- is_name -/
def b_is_name : List CS := [
  .ite (.orT (.notT (.tru (.bui .isi [(.bor 0), (.cst (.ty "str"))]))) (.orT (.notT (.chn .LtE .LtE (.cst (.int 1)) (.bui .len [(.bor 0)]) (.cst c_MAX_LETTERS))) (.cmp .NotIn (.sub (.bor 0) (.cst (.int 0))) (.cst c_LETTERS))))
    [.ret (.cst (.bl false))] [],
  .ret (.bui .all [(.lc [1] (.nm 1) .val [(.var 0)] [] (.cmp .In (.bor 1) (.cst c_SIGNS)))])]
def d_is_name : Fd := ⟨"is_name", ["value", "sign"], 1, [], [], b_is_name, none, false⟩
/-- common_divisor -/
def b_common_divisor : List CS := [
  .par [0, 1] [(.bui .abs [(.bor 0)]), (.bui .abs [(.bor 1)])],
  .whl (.cmp .Gt (.bor 1) (.cst (.int 0))) [.par [0, 1] [(.var 1), (.bin .Mod (.bor 0) (.bor 1))]],
  .ret (.bor 0)]
def d_common_divisor : Fd := ⟨"common_divisor", ["one", "other"], 2, [], [], b_common_divisor, none, false⟩
/-- is_number -/
def b_is_number : List CS := [
  .ite (.orT (.notT (.tru (.bui .isi [(.bor 0), (.cst (.ty "tuple"))]))) (.orT (.cmp .NotEq (.bui .len [(.bor 0)]) (.cst (.int 2))) (.notT (.tru (.bui .all [(.lc [1] (.nm 1) .val [(.var 0)] [] (.cal 0 [(.var 1)]))]))))) [.ret
    (.cst (.bl false))] [],
  .ret (.and (.cmp .GtE (.sub (.bor 0) (.cst (.int 1))) (.cst (.int 1))) (.cmp .Eq (.cal 2 [(.sub (.bor 0) (.cst (.int 0))), (.sub (.bor 0) (.cst (.int 1)))]) (.cst (.int 1))))]
def d_is_number : Fd := ⟨"is_number", ["value", "one"], 1, [], [], b_is_number, none, false⟩
/-- reduced -/
def b_reduced : List CS := [
  .ite (.cmp .Lt (.bor 1) (.cst (.int 0))) [.par [0, 1] [(.bin .Sub (.cst (.int 0)) (.bor 0)), (.bin .Sub (.cst (.int 0)) (.bor 1))]] [],
  .asg (.nm 2) (.cal 2 [(.var 0), (.var 1)]),
  .ret (.tup [(.bin .FloorDiv (.bor 0) (.bor 2)), (.bin .FloorDiv (.bor 1) (.bor 2))])]
def d_reduced : Fd := ⟨"reduced", ["top", "bottom", "divisor"], 2, [], [], b_reduced, none, false⟩
/-- require_count -/
def b_require_count : List CS := [
  .ite (.orT (.notT (.tru (.cal 0 [(.var 0)]))) (.notT (.chn .LtE .LtE (.var 1) (.var 0) (.var 2)))) [.rse 0 (.ini 72 "given" (.var 0))] []]
def d_require_count : Fd := ⟨"require_count", ["value", "least", "most"], 3, [(.int 0), (.int 60)], [], b_require_count, none, false⟩
/-- added -/
def b_added : List CS := [
  .ite (.chn .Eq .Eq (.sub (.bor 0) (.cst (.int 1))) (.sub (.bor 1) (.cst (.int 1))) (.cst (.int 1))) [.ret (.tup [(.bin .Add (.sub (.bor 0) (.cst (.int 0))) (.sub (.bor 1) (.cst (.int 0)))), (.cst (.int 1))])] [],
  .ret (.cal 4 [(.bin .Add (.bin .Mult (.sub (.bor 0) (.cst (.int 0))) (.sub (.bor 1) (.cst (.int 1)))) (.bin .Mult (.sub (.bor 1) (.cst (.int 0))) (.sub (.bor 0) (.cst (.int 1))))), (.bin .Mult (.sub (.bor 0) (.cst (.int 1)))
    (.sub (.bor 1) (.cst (.int 1))))])]
def d_added : Fd := ⟨"added", ["one", "other"], 2, [], [], b_added, none, false⟩
/-- multiplied -/
def b_multiplied : List CS := [
  .ite (.chn .Eq .Eq (.sub (.bor 0) (.cst (.int 1))) (.sub (.bor 1) (.cst (.int 1))) (.cst (.int 1))) [.ret (.tup [(.bin .Mult (.sub (.bor 0) (.cst (.int 0))) (.sub (.bor 1) (.cst (.int 0)))), (.cst (.int 1))])] [],
  .ret (.cal 4 [(.bin .Mult (.sub (.bor 0) (.cst (.int 0))) (.sub (.bor 1) (.cst (.int 0)))), (.bin .Mult (.sub (.bor 0) (.cst (.int 1))) (.sub (.bor 1) (.cst (.int 1))))])]
def d_multiplied : Fd := ⟨"multiplied", ["one", "other"], 2, [], [], b_multiplied, none, false⟩
/-- opposite -/
def b_opposite : List CS := [
  .ret (.tup [(.bin .Sub (.cst (.int 0)) (.sub (.bor 0) (.cst (.int 0)))), (.sub (.bor 0) (.cst (.int 1)))])]
def d_opposite : Fd := ⟨"opposite", ["one"], 1, [], [], b_opposite, none, false⟩
/-- divided -/
def b_divided : List CS := [
  .ret (.cal 4 [(.bin .Mult (.sub (.bor 0) (.cst (.int 0))) (.sub (.bor 1) (.cst (.int 1)))), (.bin .Mult (.sub (.bor 0) (.cst (.int 1))) (.sub (.bor 1) (.cst (.int 0))))])]
def d_divided : Fd := ⟨"divided", ["one", "other"], 2, [], [], b_divided, none, false⟩
/-- is_plain_row -/
def b_is_plain_row : List CS := [
  .ret (.and (.bui .isi [(.bor 1), (.cst (.ty "tuple"))]) (.and (.cmp .Eq (.bui .len [(.bor 1)]) (.bor 0)) (.bui .all [(.lc [2] (.nm 2) .val [(.var 1)] [] (.cal 3 [(.var 2)]))])))]
def d_is_plain_row : Fd := ⟨"is_plain_row", ["width", "value", "one"], 2, [], [], b_is_plain_row, none, false⟩
/-- is_plain_table -/
def b_is_plain_table : List CS := [
  .ret (.and (.bui .isi [(.bor 2), (.cst (.ty "tuple"))]) (.and (.cmp .Eq (.bui .len [(.bor 2)]) (.bor 0)) (.bui .all [(.lc [3] (.nm 3) .val [(.var 2)] [] (.cal 10 [(.var 1), (.var 3)]))])))]
def d_is_plain_table : Fd := ⟨"is_plain_table", ["height", "width", "value", "row"], 3, [], [], b_is_plain_table, none, false⟩
/-- first_index -/
def b_first_index : List CS := [
  .fro (.tp [(.nm 1), (.nm 2)]) .enu [(.var 0)] [.ite (.cmp .NotEq (.bor 2) (.cst c_NOUGHT)) [.ret (.bor 1)] []],
  .ret (.cst .non)]
def d_first_index : Fd := ⟨"first_index", ["row", "index", "one"], 1, [], [], b_first_index, none, false⟩
/-- rest_row -/
def b_rest_row : List CS := [
  .ret (.bin .Mult (.tup [(.cst c_NOUGHT)]) (.bor 0))]
def d_rest_row : Fd := ⟨"rest_row", ["width"], 1, [], [], b_rest_row, none, false⟩
/-- unit_row -/
def b_unit_row : List CS := [
  .ret (.bui .tuple [(.lc [2] (.nm 2) .rng [(.var 0)] [] (.ife (.cmp .Eq (.bor 2) (.bor 1)) (.cst c_ONE) (.cst c_NOUGHT)))])]
def d_unit_row : Fd := ⟨"unit_row", ["width", "index", "place"], 2, [], [], b_unit_row, none, false⟩
/-- unit_table -/
def b_unit_table : List CS := [
  .ret (.bui .tuple [(.lc [1] (.nm 1) .rng [(.var 0)] [] (.cal 14 [(.var 0), (.var 1)]))])]
def d_unit_table : Fd := ⟨"unit_table", ["width", "index"], 1, [], [], b_unit_table, none, false⟩
/-- is_rest -/
def b_is_rest : List CS := [
  .ret (.cmp .Is (.cal 12 [(.var 0)]) (.cst .non))]
def d_is_rest : Fd := ⟨"is_rest", ["row"], 1, [], [], b_is_rest, none, false⟩
/-- sum_of_rows -/
def b_sum_of_rows : List CS := [
  .ret (.bui .tuple [(.lc [2, 3] (.tp [(.nm 2), (.nm 3)]) .zip [(.var 0), (.var 1)] [] (.cal 6 [(.var 2), (.var 3)]))])]
def d_sum_of_rows : Fd := ⟨"sum_of_rows", ["one", "other", "left", "right"], 2, [], [], b_sum_of_rows, none, false⟩
/-- times_row -/
def b_times_row : List CS := [
  .ret (.bui .tuple [(.lc [2] (.nm 2) .val [(.var 1)] [] (.ife (.cmp .NotEq (.bor 2) (.cst c_NOUGHT)) (.cal 7 [(.var 0), (.var 2)]) (.cst c_NOUGHT)))])]
def d_times_row : Fd := ⟨"times_row", ["number", "row", "one"], 2, [], [], b_times_row, none, false⟩
/-- less_times -/
def b_less_times : List CS := [
  .ret (.cal 17 [(.var 0), (.cal 18 [(.cal 8 [(.var 1)]), (.var 2)])])]
def d_less_times : Fd := ⟨"less_times", ["row", "number", "other"], 3, [], [], b_less_times, none, false⟩
/-- led_told -/
def b_led_told : List CS := [
  .asg (.nm 3) (.cal 13 [(.var 0)]),
  .fro (.tp [(.nm 4), (.nm 5)]) .zip [(.var 2), (.var 1)] [.ite (.cmp .NotEq (.bor 4) (.cst c_NOUGHT)) [.asg (.nm 3) (.cal 17 [(.var 3), (.cal 18 [(.var 4), (.var 5)])])] []],
  .ret (.bor 3)]
def d_led_told : Fd := ⟨"led_told", ["width", "table", "told", "found", "number", "line"], 3, [], [], b_led_told, none, false⟩
/-- columns_of -/
def b_columns_of : List CS := [
  .ret (.bui .tuple [(.lc [3] (.nm 3) .rng [(.var 1)] [] (.bui .tuple [(.lc [2] (.nm 2) .val [(.var 0)] [] (.sub (.bor 2) (.var 3)))]))])]
def d_columns_of : Fd := ⟨"columns_of", ["table", "width", "line", "index"], 2, [], [], b_columns_of, none, false⟩
/-- rest_by -/
def b_rest_by : List CS := [
  .fro (.nm 2) .val [(.var 0)] [.asg (.nm 3) (.sub (.bor 1) (.cal 12 [(.var 2)])), .ite (.cmp .NotEq (.bor 3) (.cst c_NOUGHT)) [.asg (.nm 1) (.cal 19 [(.var 1), (.var 3), (.var 2)])] []],
  .ret (.bor 1)]
def d_rest_by : Fd := ⟨"rest_by", ["lot", "row", "other", "number"], 2, [], [], b_rest_by, none, false⟩
/-- with_row -/
def b_with_row : List CS := [
  .asg (.nm 2) (.cal 22 [(.var 0), (.var 1)]),
  .asg (.nm 3) (.cal 12 [(.var 2)]),
  .ite (.cmp .Is (.bor 3) (.cst .non)) [.ret (.bor 0)] [],
  .asg (.nm 2) (.cal 18 [(.cal 9 [(.cst c_ONE), (.sub (.bor 2) (.var 3))]), (.var 2)]),
  .asg (.nm 4) (.bin .Add (.lc [5] (.nm 5) .val [(.var 0)] [] (.ife (.cmp .NotEq (.sub (.bor 5) (.var 3)) (.cst c_NOUGHT)) (.cal 19 [(.var 5), (.sub (.bor 5) (.var 3)), (.var 2)]) (.var 5))) (.lst [(.var 2)])),
  .ret (.bui .tuple [(.srk 12 (.bor 4))])]
def d_with_row : Fd := ⟨"with_row", ["lot", "row", "left", "index", "found", "other"], 2, [], [], b_with_row, none, false⟩
/-- spanned -/
def b_spanned : List CS := [
  .asg (.nm 1) (.tup []),
  .fro (.nm 2) .val [(.var 0)] [.asg (.nm 1) (.cal 23 [(.var 1), (.var 2)])],
  .ret (.bor 1)]
def d_spanned : Fd := ⟨"spanned", ["rows", "lot", "row"], 1, [], [], b_spanned, none, false⟩
/-- does_hold -/
def b_does_hold : List CS := [
  .ret (.cal 16 [(.cal 22 [(.var 0), (.var 1)])])]
def d_does_hold : Fd := ⟨"does_hold", ["lot", "row"], 2, [], [], b_does_hold, none, false⟩
/-- apart_from -/
def b_apart_from : List CS := [
  .par [2, 3] [(.lc [4] (.nm 4) .val [(.var 1)] [] (.cal 12 [(.var 4)])), (.lst [])],
  .fro (.nm 5) .rng [(.var 0)] [.ite (.cmp .NotIn (.bor 5) (.bor 2)) [.asg (.nm 4) (.lc [6] (.nm 6) .rng [(.var 0)] [] (.ife (.cmp .Eq (.bor 6) (.bor 5)) (.cst c_ONE) (.cst c_NOUGHT))), .fro (.tp [(.nm 7), (.nm 8)]) .zip [(.var
    2), (.var 1)] [.set 4 (.var 7) (.cal 8 [(.sub (.bor 8) (.var 5))])], .app 3 (.bui .tuple [(.bor 4)])] []],
  .ret (.cal 24 [(.var 3)])]
def d_apart_from : Fd := ⟨"apart_from", ["width", "lot", "firsts", "found", "row", "index", "place", "first", "other"], 2, [], [], b_apart_from, none, false⟩
/-- met_of -/
def b_met_of : List CS := [
  .ret (.cal 26 [(.var 0), (.cal 24 [(.bin .Add (.cal 26 [(.var 0), (.var 1)]) (.cal 26 [(.var 0), (.var 2)]))])])]
def d_met_of : Fd := ⟨"met_of", ["width", "one", "other"], 3, [], [], b_met_of, none, false⟩
/-- are_names -/
def b_are_names : List CS := [
  .ite (.orT (.notT (.tru (.bui .isi [(.bor 0), (.cst (.ty "tuple"))]))) (.orT (.notT (.chn .LtE .LtE (.var 1) (.bui .len [(.bor 0)]) (.var 2))) (.notT (.tru (.bui .all [(.lc [3] (.nm 3) .val [(.var 0)] [] (.cal 1 [(.var 3)]))])))))
    [.ret (.cst (.bl false))] [],
  .ret (.bui .all [(.lc [4, 5] (.tp [(.nm 4), (.nm 5)]) .zip [(.var 0), (.slc (.bor 0) (some (.cst (.int 1))) none)] [] (.cmp .Lt (.bor 4) (.bor 5)))])]
def d_are_names : Fd := ⟨"are_names", ["value", "least", "most", "name", "one", "other"], 3, [], [], b_are_names, none, false⟩
/-- least_key -/
def b_least_key : List CS := [
  .ret (.sub .ded (.cst (.int 0)))]
def d_least_key : Fd := ⟨"least_key", ["keys"], 1, [], [], b_least_key, none, false⟩
/-- names_fault -/
def b_names_fault : List CS := [
  .ite (.notT (.tru (.cal 28 [(.var 0), (.cst (.int 1)), (.cst c_MAX_PLACES)]))) [.ret (.tup [(.cst (.str (Str.ofString "places")))])] [],
  .ite (.notT (.tru (.cal 28 [(.var 1), (.cst (.int 0)), (.cst c_MAX_HANDS)]))) [.ret (.tup [(.cst (.str (Str.ofString "hands")))])] [],
  .asg (.nm 2) (.lc [3] (.nm 3) .val [(.var 0)] [(.cmp .In (.bor 3) (.bor 1))] (.var 3)),
  .ret (.ife (.cmp .Eq (.bor 2) (.lst [])) (.cst .non) (.tup [(.cst (.str (Str.ofString "twice"))), (.sub (.bor 2) (.cst (.int 0)))]))]
def d_names_fault : Fd := ⟨"names_fault", ["places", "hands", "both", "name"], 2, [], [], b_names_fault, none, false⟩
/-- rules_fault -/
def b_rules_fault : List CS := [
  .ite (.orT (.notT (.tru (.bui .isi [(.bor 2), (.cst (.ty "dict"))]))) (.notT (.chn .LtE .LtE (.cst (.int 1)) (.bui .len [(.bor 2)]) (.cst c_MAX_RULES)))) [.ret (.tup [(.cst (.str (Str.ofString "rules"))), (.cst .non)])] [],
  .asg (.nm 3) (.lc [4] (.nm 4) .val [(.var 2)] [(.orT (.notT (.tru (.cal 1 [(.var 4)]))) (.notT (.tru (.cal 11 [(.var 0), (.var 1), (.sub (.bor 2) (.var 4))]))))] (.var 4)),
  .ret (.ife (.cmp .Eq (.bor 3) (.lst [])) (.cst .non) (.tup [(.cst (.str (Str.ofString "rules"))), (.cal 29 [(.var 3)])]))]
def d_rules_fault : Fd := ⟨"rules_fault", ["width", "wide", "rules", "wrong", "key"], 3, [], [], b_rules_fault, none, false⟩
/-- are_some -/
def b_are_some : List CS := [
  .ret (.and (.cal 28 [(.var 1), (.cst (.int 1)), (.cst c_MAX_RULES)]) (.bui .all [(.lc [2] (.nm 2) .val [(.var 1)] [] (.cmp .In (.bor 2) (.bor 0)))]))]
def d_are_some : Fd := ⟨"are_some", ["rules", "value", "name"], 2, [], [], b_are_some, none, false⟩
/-- chart_fault -/
def b_chart_fault : List CS := [
  .ite (.orT (.notT (.tru (.bui .isi [(.bor 1), (.cst (.ty "tuple"))]))) (.cmp .NotEq (.bui .len [(.bor 1)]) (.cst (.int 2)))) [.ret (.tup [(.cst (.str (Str.ofString "chart")))])] [],
  .asg (.tp [(.nm 2), (.nm 3)]) (.var 1),
  .ite (.notT (.tru (.cal 32 [(.var 0), (.var 2)]))) [.ret (.tup [(.cst (.str (Str.ofString "firsts")))])] [],
  .ite (.orT (.notT (.tru (.bui .isi [(.bor 3), (.cst (.ty "dict"))]))) (.orT (.cmp .NotEq (.bui .len [(.bor 3)]) (.bui .len [(.bor 0)])) (.notT (.tru (.bui .all [(.lc [4] (.nm 4) .val [(.var 0)] [] (.cmp .In (.bor 4) (.bor
    3)))]))))) [.ret (.tup [(.cst (.str (Str.ofString "follows"))), (.cst .non)])] [],
  .asg (.nm 5) (.lc [4] (.nm 4) .val [(.bui .srt [(.bor 0)])] [(.notT (.tru (.cal 32 [(.var 0), (.sub (.bor 3) (.var 4))])))] (.var 4)),
  .ret (.ife (.cmp .Eq (.bor 5) (.lst [])) (.cst .non) (.tup [(.cst (.str (Str.ofString "follows"))), (.sub (.bor 5) (.cst (.int 0)))]))]
def d_chart_fault : Fd := ⟨"chart_fault", ["rules", "chart", "firsts", "follows", "name", "wrong"], 2, [], [], b_chart_fault, none, false⟩
/-- gauges_fault -/
def b_gauges_fault : List CS := [
  .ite (.orT (.notT (.tru (.bui .isi [(.bor 1), (.cst (.ty "dict"))]))) (.cmp .Gt (.bui .len [(.bor 1)]) (.cst c_MAX_GAUGES))) [.ret (.tup [(.cst (.str (Str.ofString "gauges"))), (.cst .non)])] [],
  .asg (.nm 2) (.lc [3] (.nm 3) .val [(.var 1)] [(.orT (.notT (.tru (.cal 1 [(.var 3)]))) (.notT (.tru (.cal 10 [(.var 0), (.sub (.bor 1) (.var 3))]))))] (.var 3)),
  .ret (.ife (.cmp .Eq (.bor 2) (.lst [])) (.cst .non) (.tup [(.cst (.str (Str.ofString "gauges"))), (.cal 29 [(.var 2)])]))]
def d_gauges_fault : Fd := ⟨"gauges_fault", ["width", "gauges", "wrong", "key"], 2, [], [], b_gauges_fault, none, false⟩
/-- plant_fault -/
def b_plant_fault : List CS := [
  .asg (.nm 5) (.cal 30 [(.var 0), (.var 1)]),
  .ite (.cmp .Is (.bor 5) (.cst .non)) [.asg (.nm 5) (.cal 31 [(.bui .len [(.bor 0)]), (.bin .Add (.bui .len [(.bor 0)]) (.bui .len [(.bor 1)])), (.var 2)])] [],
  .ite (.cmp .Is (.bor 5) (.cst .non)) [.asg (.nm 5) (.cal 33 [(.var 2), (.var 3)])] [],
  .ret (.ife (.cmp .Is (.bor 5) (.cst .non)) (.cal 34 [(.bui .len [(.bor 0)]), (.var 4)]) (.bor 5))]
def d_plant_fault : Fd := ⟨"plant_fault", ["places", "hands", "rules", "chart", "gauges", "fault"], 5, [], [], b_plant_fault, none, false⟩
/-- require_plant -/
def b_require_plant : List CS := [
  .ite (.notT (.tru (.isC 0 (.bor 0)))) [.rse 1 .txt] []]
def d_require_plant : Fd := ⟨"require_plant", ["value"], 1, [], [], b_require_plant, none, false⟩
/-- require_sight -/
def b_require_sight : List CS := [
  .ite (.orT (.notT (.tru (.bui .isi [(.bor 0), (.cst (.ty "str"))]))) (.cmp .NotIn (.bor 0) (.tup [(.cst c_AHEAD), (.cst c_BEHIND)]))) [.rse 2 .txt] []]
def d_require_sight : Fd := ⟨"require_sight", ["sight"], 1, [], [], b_require_sight, none, false⟩
/-- require_both -/
def b_require_both : List CS := [
  .exp (.cal 36 [(.var 0)]),
  .exp (.cal 37 [(.var 1)])]
def d_require_both : Fd := ⟨"require_both", ["plant", "sight"], 2, [], [], b_require_both, none, false⟩
/-- require_rule -/
def b_require_rule : List CS := [
  .ite (.orT (.notT (.tru (.bui .isi [(.bor 1), (.cst (.ty "str"))]))) (.cmp .NotIn (.bor 1) (.fld 0 3 (.bor 0)))) [.rse 3 (.ini 73 "wanted" (.var 1))] []]
def d_require_rule : Fd := ⟨"require_rule", ["plant", "rule"], 2, [], [], b_require_rule, none, false⟩
/-- require_standing -/
def b_require_standing : List CS := [
  .ite (.notT (.tru (.cal 10 [(.fld 0 7 (.bor 0)), (.var 1)]))) [.rse 4 .txt] []]
def d_require_standing : Fd := ⟨"require_standing", ["plant", "row"], 2, [], [], b_require_standing, none, false⟩
/-- every_lot -/
def b_every_lot : List CS := [
  .ret (.cal 15 [(.fld 0 7 (.bor 0))])]
def d_every_lot : Fd := ⟨"every_lot", ["plant"], 1, [], [], b_every_lot, none, false⟩
/-- with_lot -/
def b_with_lot : List CS := [
  .ret (.fz (.dcp [2] (.nm 2) .val [(.fld 0 2 (.bor 0))] [] (.var 2) (.var 1)))]
def d_with_lot : Fd := ⟨"with_lot", ["plant", "lot", "rule"], 2, [], [], b_with_lot, none, false⟩
/-- met_all -/
def b_met_all : List CS := [
  .asg (.nm 2) (.cal 41 [(.var 0)]),
  .fro (.nm 3) .val [(.var 1)] [.asg (.nm 2) (.cal 27 [(.fld 0 7 (.bor 0)), (.var 2), (.var 3)])],
  .ret (.bor 2)]
def d_met_all : Fd := ⟨"met_all", ["plant", "lots", "found", "lot"], 2, [], [], b_met_all, none, false⟩
/-- pairs_at -/
def b_pairs_at : List CS := [
  .asg (.nm 4) (.sub (.fld 0 5 (.bor 0)) (.var 3)),
  .ite (.cmp .Eq (.bor 1) (.cst c_AHEAD)) [.ret (.lst [(.tup [(.var 3), (.cal 43 [(.var 0), (.lc [5] (.nm 5) .val [(.var 4)] [] (.sub (.bor 2) (.var 5)))])])])] [],
  .ret (.lc [5] (.nm 5) .val [(.var 4)] [] (.tup [(.var 5), (.sub (.bor 2) (.var 5))]))]
def d_pairs_at : Fd := ⟨"pairs_at", ["plant", "sight", "spread", "rule", "followers", "one"], 4, [], [], b_pairs_at, none, false⟩
/-- wholes_of -/
def b_wholes_of : List CS := [
  .asg (.nm 2) (.lst []),
  .fro (.tp [(.nm 3), (.nm 4)]) .val [(.var 1)] [.fro (.nm 5) .val [(.cal 26 [(.fld 0 7 (.bor 0)), (.var 4)])] [.app 2 (.cal 20 [(.fld 0 8 (.bor 0)), (.sub (.fld 0 3 (.bor 0)) (.var 3)), (.var 5)])]],
  .ret (.bor 2)]
def d_wholes_of : Fd := ⟨"wholes_of", ["plant", "pairs", "found", "rule", "lot", "row"], 2, [], [], b_wholes_of, none, false⟩
/-- lot_into -/
def b_lot_into : List CS := [
  .asg (.nm 2) (.cal 26 [(.fld 0 8 (.bor 0)), (.cal 24 [(.cal 45 [(.var 0), (.var 1)])])]),
  .ret (.cal 24 [(.lc [3] (.nm 3) .val [(.var 2)] [] (.slc (.bor 3) none (some (.fld 0 7 (.bor 0)))))])]
def d_lot_into : Fd := ⟨"lot_into", ["plant", "pairs", "lot", "row"], 2, [], [], b_lot_into, none, false⟩
/-- back_of -/
def b_back_of : List CS := [
  .ret (.fz (.dcp [3] (.nm 3) .val [(.fld 0 2 (.bor 0))] [] (.var 3) (.cal 46 [(.var 0), (.cal 44 [(.var 0), (.var 1), (.var 2), (.var 3)])])))]
def d_back_of : Fd := ⟨"back_of", ["plant", "sight", "spread", "rule"], 3, [], [], b_back_of, none, false⟩
/-- starts_of -/
def b_starts_of : List CS := [
  .ite (.cmp .Eq (.bor 1) (.cst c_AHEAD)) [.ret (.cal 43 [(.var 0), (.lc [3] (.nm 3) .val [(.fld 0 4 (.bor 0))] [] (.sub (.bor 2) (.var 3)))])] [],
  .ret (.cal 46 [(.var 0), (.lc [3] (.nm 3) .val [(.fld 0 4 (.bor 0))] [] (.tup [(.var 3), (.sub (.bor 2) (.var 3))]))])]
def d_starts_of : Fd := ⟨"starts_of", ["plant", "sight", "spread", "rule"], 3, [], [], b_starts_of, none, false⟩
/-- home_list -/
def b_home_list : List CS := [
  .asg (.nm 2) (.lst [(.cal 42 [(.var 0), (.tup [])])]),
  .whl (.tru (.cst (.bl true))) [.asg (.nm 3) (.cal 47 [(.var 0), (.var 1), (.sub (.bor 2) (.neg (.cst (.int 1))))]), .ite (.cmp .Eq (.bor 3) (.sub (.bor 2) (.neg (.cst (.int 1))))) [.ret (.bor 2)] [], .app 2 (.var 3)]]
def d_home_list : Fd := ⟨"home_list", ["plant", "sight", "found", "later"], 2, [], [], b_home_list, none, false⟩
/-- spread_at -/
def b_spread_at : List CS := [
  .ret (.sub (.bor 0) (.bui .min [(.bor 1), (.bin .Sub (.bui .len [(.bor 0)]) (.cst (.int 1)))]))]
def d_spread_at : Fd := ⟨"spread_at", ["spreads", "ticks"], 2, [], [], b_spread_at, none, false⟩
/-- last_of -/
def b_last_of : List CS := [
  .ret (.sub (.cal 49 [(.var 0), (.var 1)]) (.neg (.cst (.int 1))))]
def d_last_of : Fd := ⟨"last_of", ["plant", "sight"], 2, [], [], b_last_of, none, false⟩
/-- lots_of_starts -/
def b_lots_of_starts : List CS := [
  .asg (.nm 3) (.lc [4] (.nm 4) .val [(.var 2)] [] (.cal 48 [(.var 0), (.var 1), (.var 4)])),
  .ret (.ife (.cmp .Eq (.bor 1) (.cst c_AHEAD)) (.bor 3) (.lsx [(.tup [])] (.bor 3)))]
def d_lots_of_starts : Fd := ⟨"lots_of_starts", ["plant", "sight", "spreads", "lots", "spread"], 3, [], [], b_lots_of_starts, none, false⟩
/-- home_spread -/
def b_home_spread : List CS := [
  .exp (.cal 38 [(.var 0), (.var 1)]),
  .exp (.cal 5 [(.var 2)]),
  .ret (.cal 50 [(.cal 49 [(.var 0), (.var 1)]), (.var 2)])]
def d_home_spread : Fd := ⟨"home_spread", ["plant", "sight", "ticks"], 3, [], [], b_home_spread, none, false⟩
/-- last_spread -/
def b_last_spread : List CS := [
  .exp (.cal 38 [(.var 0), (.var 1)]),
  .ret (.cal 51 [(.var 0), (.var 1)])]
def d_last_spread : Fd := ⟨"last_spread", ["plant", "sight"], 2, [], [], b_last_spread, none, false⟩
/-- steady_number -/
def b_steady_number : List CS := [
  .exp (.cal 38 [(.var 0), (.var 1)]),
  .ret (.bin .Sub (.bui .len [(.cal 49 [(.var 0), (.var 1)])]) (.cst (.int 1)))]
def d_steady_number : Fd := ⟨"steady_number", ["plant", "sight"], 2, [], [], b_steady_number, none, false⟩
/-- home_lot_by -/
def b_home_lot_by : List CS := [
  .exp (.cal 38 [(.var 0), (.var 1)]),
  .exp (.cal 5 [(.var 2)]),
  .asg (.nm 3) (.cal 52 [(.var 0), (.var 1), (.cal 49 [(.var 0), (.var 1)])]),
  .ret (.sub (.bor 3) (.bui .min [(.bor 2), (.bin .Sub (.bui .len [(.bor 3)]) (.cst (.int 1)))]))]
def d_home_lot_by : Fd := ⟨"home_lot_by", ["plant", "sight", "ticks", "lots"], 3, [], [], b_home_lot_by, none, false⟩
/-- home_lot -/
def b_home_lot : List CS := [
  .exp (.cal 38 [(.var 0), (.var 1)]),
  .ret (.cal 48 [(.var 0), (.var 1), (.cal 51 [(.var 0), (.var 1)])])]
def d_home_lot : Fd := ⟨"home_lot", ["plant", "sight"], 2, [], [], b_home_lot, none, false⟩
/-- least_holding -/
def b_least_holding : List CS := [
  .fro (.tp [(.nm 2), (.nm 3)]) .enu [(.var 0)] [.ite (.tru (.cal 25 [(.var 3), (.var 1)])) [.ret (.bor 2)] []],
  .ret (.cst .non)]
def d_least_holding : Fd := ⟨"least_holding", ["lots", "row", "index", "lot"], 2, [], [], b_least_holding, none, false⟩
/-- require_start -/
def b_require_start : List CS := [
  .exp (.cal 38 [(.var 0), (.var 1)]),
  .exp (.cal 40 [(.var 0), (.var 2)])]
def d_require_start : Fd := ⟨"require_start", ["plant", "sight", "start"], 3, [], [], b_require_start, none, false⟩
/-- is_home -/
def b_is_home : List CS := [
  .exp (.cal 59 [(.var 0), (.var 1), (.var 2)]),
  .ret (.cal 25 [(.cal 48 [(.var 0), (.var 1), (.cal 51 [(.var 0), (.var 1)])]), (.var 2)])]
def d_is_home : Fd := ⟨"is_home", ["plant", "sight", "start"], 3, [], [], b_is_home, none, false⟩
/-- home_ticks -/
def b_home_ticks : List CS := [
  .exp (.cal 59 [(.var 0), (.var 1), (.var 2)]),
  .ret (.cal 58 [(.cal 52 [(.var 0), (.var 1), (.cal 49 [(.var 0), (.var 1)])]), (.var 2)])]
def d_home_ticks : Fd := ⟨"home_ticks", ["plant", "sight", "start"], 3, [], [], b_home_ticks, none, false⟩
/-- are_all -/
def b_are_all : List CS := [
  .ret (.cmp .Eq (.cal 48 [(.var 0), (.var 1), (.cal 51 [(.var 0), (.var 1)])]) (.cal 41 [(.var 0)]))]
def d_are_all : Fd := ⟨"are_all", ["plant", "sight"], 2, [], [], b_are_all, none, false⟩
/-- is_all_home -/
def b_is_all_home : List CS := [
  .exp (.cal 38 [(.var 0), (.var 1)]),
  .ret (.cal 62 [(.var 0), (.var 1)])]
def d_is_all_home : Fd := ⟨"is_all_home", ["plant", "sight"], 2, [], [], b_is_all_home, none, false⟩
/-- steady_ticks -/
def b_steady_ticks : List CS := [
  .exp (.cal 38 [(.var 0), (.var 1)]),
  .asg (.nm 2) (.cal 52 [(.var 0), (.var 1), (.cal 49 [(.var 0), (.var 1)])]),
  .ret (.ind (.bor 2) (.sub (.bor 2) (.neg (.cst (.int 1)))))]
def d_steady_ticks : Fd := ⟨"steady_ticks", ["plant", "sight", "lots"], 2, [], [], b_steady_ticks, none, false⟩
/-- home_number -/
def b_home_number : List CS := [
  .exp (.cal 38 [(.var 0), (.var 1)]),
  .exp (.cal 39 [(.var 0), (.var 2)]),
  .exp (.cal 40 [(.var 0), (.var 3)]),
  .ite (.tru (.cal 16 [(.var 3)])) [.ret (.cst (.int 0))] [],
  .ret (.cal 58 [(.lc [4] (.nm 4) .val [(.cal 49 [(.var 0), (.var 1)])] [] (.sub (.bor 4) (.var 2))), (.var 3)])]
def d_home_number : Fd := ⟨"home_number", ["plant", "sight", "rule", "standing", "spread"], 4, [], [], b_home_number, none, false⟩
/-- _law_dice -/
def b_law_dice : List CS := [
  .asg (.nm 2) (.ife (.cmp .Lt (.bor 1) (.bui .len [(.bor 0)])) (.bui .int [(.sub (.bor 0) (.var 1))]) (.bin .Add (.bin .Mult (.cst (.int 131)) (.bor 1)) (.cst (.int 37)))),
  .asg (.nm 3) (.bin .Mod (.bui .int [(.bui .abs [(.bor 2)])]) (.bin .Pow (.bin .Pow (.cst (.int 10)) (.cst (.int 53))) (.cst (.int 6)))),
  .asg (.nm 4) (.bin .Add (.bin .Add (.bin .Add (.bin .Mult (.bin .Mod (.bor 3) (.cst (.int 2305843009213693907))) (.cst (.int 73))) (.bin .Mult (.cst (.int 619)) (.bor 1))) (.bin .Mult (.cst (.int 41)) (.bui .int [(.cmp .Lt
    (.bor 2) (.cst (.int 0)))]))) (.cst (.int 17))),
  .ret (.lst [(.bui .max [(.cst (.int 0)), (.bin .Sub (.bor 3) (.bin .Pow (.cst (.int 10)) (.cst (.int 16))))]), (.var 4), (.cst (.int 0))])]
def d_law_dice : Fd := ⟨"_law_dice", ["script", "spot", "cell", "great", "seed"], 2, [], [], b_law_dice, none, false⟩
/-- _law_roll -/
def b_law_roll : List CS := [
  .ite (.cmp .Gt (.sub (.bor 0) (.cst (.int 0))) (.cst (.int 0))) [.asg (.nm 2) (.bin .Mod (.sub (.bor 0) (.cst (.int 0))) (.bor 1)), .set 0 (.cst (.int 0)) (.bin .FloorDiv (.sub (.bor 0) (.cst (.int 0))) (.bor 1)), .ret (.bui
    .int [(.bor 2)])] [],
  .set 0 (.cst (.int 2)) (.bin .Add (.sub (.bor 0) (.cst (.int 2))) (.cst (.int 1))),
  .asg (.nm 3) (.bin .Mod (.bin .Add (.sub (.bor 0) (.cst (.int 1))) (.bin .Mult (.cst (.int 49979687)) (.sub (.bor 0) (.cst (.int 2))))) (.cst (.int 2305843009213693951))),
  .asg (.nm 4) (.bin .Add (.bin .Mult (.bin .Mod (.bin .Add (.bin .Mult (.bor 3) (.bor 3)) (.bin .Mult (.cst (.int 131)) (.sub (.bor 0) (.cst (.int 2))))) (.cst (.int 2305843009213693921))) (.cst (.int 32452843))) (.bor 3)),
  .ret (.bin .Mod (.bui .int [(.bin .FloorDiv (.bor 4) (.cst (.int 65587)))]) (.bor 1))]
def d_law_roll : Fd := ⟨"_law_roll", ["dice", "total", "found", "one", "two"], 2, [], [0], b_law_roll, none, false⟩
/-- _law_pick -/
def b_law_pick : List CS := [
  .ret (.sub (.bor 1) (.cal 67 [(.bor 0), (.bui .len [(.bor 1)])]))]
def d_law_pick : Fd := ⟨"_law_pick", ["dice", "things"], 2, [], [0], b_law_pick, none, false⟩
/-- _law_word -/
def b_law_word : List CS := [
  .ded,
  .ded]
def d_law_word : Fd := ⟨"_law_word", ["call", "error"], 1, [], [], b_law_word, some ⟨"_law_word", "call", [⟨1, "plant", none⟩, ⟨4, "row", none⟩, ⟨2, "operation", none⟩, ⟨3, "unknown ", some "wanted"⟩, ⟨0, "count ", some "given"⟩], "fine"⟩, false⟩
/-- _law_right -/
def b_law_right : List CS := [
  .asg (.tp [(.nm 2), (.nm 3)]) (.tup [(.cal 68 [(.bor 0), (.lst [(.cst .non), (.cst (.int 0)), (.fz (.dct [])), (.tup []), (.lst [(.var 1)]), (.cst (.bl true))])]), (.cal 68 [(.bor 0), (.lst [(.cst .non), (.cst (.str (Str.ofString
    ""))), (.cst (.str (Str.ofString "Ahead"))), (.cst (.int 1)), (.tup [(.cst (.str (Str.ofString "ahead")))])])])]),
  .asg (.tp [(.nm 4), (.nm 5)]) (.tup [(.cal 68 [(.bor 0), (.lst [(.cst .non), (.neg (.cst (.int 1))), (.cst (.int 61)), (.cst (.bl true)), (.cst (.str (Str.ofString "1"))), (.bin .Pow (.cst (.int 10)) (.cst (.int 20)))])]),
    (.cal 68 [(.bor 0), (.lst [(.cst (.str (Str.ofString "z"))), (.cst (.str (Str.ofString ""))), (.cst .non), (.cst (.int 3)), (.tup [(.cst (.str (Str.ofString "a")))]), (.cst (.str (Str.ofString "A")))])])]),
  .asg (.tp [(.nm 6), (.nm 7)]) (.tup [(.cal 68 [(.bor 0), (.lst [(.cst .non), (.tup []), (.tup [(.cst (.int 1))]), (.lst [(.tup [(.cst (.int 1)), (.cst (.int 1))])]), (.tup [(.tup [(.cst (.int 2)), (.cst (.int 2))])]), (.tup
    [(.tup [(.cst (.int 1)), (.cst (.int 1))]), (.tup [(.cst (.int 1)), (.cst (.int 1))])])])]), (.tup [(.tup [(.cst (.int 1)), (.cst (.int 1))])])]),
  .fro (.nm 8) .val [(.tup [(.cst (.fn 54)), (.cst (.fn 55)), (.cst (.fn 57)), (.cst (.fn 63)), (.cst (.fn 64))])] [.asl 9 [75, 76, 77, 78], .ite (.cmp .NotEq (.lcw 69 9 10 [[0, 1], [1], [], []]) (.lst [(.cst (.str
    (Str.ofString "plant"))), (.cst (.str (Str.ofString "operation"))), (.cst (.str (Str.ofString "fine"))), (.cst (.str (Str.ofString "fine")))])) [.ret (.cst (.bl false))] []],
  .fro (.nm 8) .val [(.tup [(.cst (.fn 53)), (.cst (.fn 56))])] [.asl 9 [79, 80, 81, 82], .ite (.cmp .NotEq (.lcw 69 9 10 [[0, 1, 2], [1, 2], [2], []]) (.lst [(.cst (.str (Str.ofString "plant"))), (.cst (.str (Str.ofString
    "operation"))), (.spl [2] (.bin .Add (.cst (.str (Str.ofString "count "))) (.bui .repr [(.bor 4)]))), (.cst (.str (Str.ofString "fine")))])) [.ret (.cst (.bl false))] []],
  .fro (.nm 8) .val [(.tup [(.cst (.fn 60)), (.cst (.fn 61))])] [.asl 9 [83, 84, 85, 86], .ite (.cmp .NotEq (.lcw 69 9 10 [[0, 1, 4], [1, 4], [4], []]) (.lst [(.cst (.str (Str.ofString "plant"))), (.cst (.str
    (Str.ofString "operation"))), (.cst (.str (Str.ofString "row"))), (.cst (.str (Str.ofString "fine")))])) [.ret (.cst (.bl false))] []],
  .asl 9 [87, 88, 89, 90, 91],
  .ret (.cmp .Eq (.lcw 69 9 8 [[0, 1, 3, 4], [1, 3, 4], [3, 4], [4], []]) (.lst [(.cst (.str (Str.ofString "plant"))), (.cst (.str (Str.ofString "operation"))), (.spl [3] (.bin .Add (.cst (.str (Str.ofString "unknown "))) (.bui
    .repr [(.bor 5)]))), (.cst (.str (Str.ofString "row"))), (.cst (.str (Str.ofString "fine")))]))]
def d_law_right : Fd := ⟨"_law_right", ["dice", "plant", "none", "sight", "odd", "rule", "row", "fine", "call", "calls", "each"], 2, [], [0], b_law_right, none, true⟩
/-- law -/
def b_law : List CS := [
  .asg (.tp [(.nm 1), (.nm 2)]) (.tup [(.tup [(.cst (.int 1)), (.cst (.int 1))]), (.tup [(.cst (.int 0)), (.cst (.int 1))])]),
  .asg (.nm 3) (.fz (.dct [(.cst (.str (Str.ofString "a"))), (.tup [(.tup [(.var 1), (.var 1)])]), (.cst (.str (Str.ofString "b"))), (.tup [(.tup [(.var 1), (.tup [(.neg (.cst (.int 1))), (.cst (.int 1))])])])])),
  .asg (.nm 4) (.mk 0 74 [(.tup [(.cst (.str (Str.ofString "x")))]), (.tup [(.cst (.str (Str.ofString "u")))]), (.var 3), (.tup [(.tup [(.cst (.str (Str.ofString "a"))), (.cst (.str (Str.ofString "b")))]), (.fz (.dct [(.cst
    (.str (Str.ofString "a"))), (.tup [(.cst (.str (Str.ofString "a"))), (.cst (.str (Str.ofString "b")))]), (.cst (.str (Str.ofString "b"))), (.tup [(.cst (.str (Str.ofString "a"))), (.cst (.str (Str.ofString "b")))])]))]),
    (.fz (.dct []))]),
  .fro (.nm 5) .rng [(.bui .max [(.cst (.int 1)), (.bui .min [(.cst (.int 5)), (.bui .len [(.bor 0)])])])] [.asg (.nm 6) (.cal 66 [(.var 0), (.var 5)]), .fro (.nm 7) .rng [(.cst (.int 4))] [.ite (.notT (.tru (.cal 70 [(.bor
    6), (.var 4)]))) [.ret (.cst (.bl false))] []]],
  .asg (.nm 8) (.mk 0 74 [(.tup [(.cst (.str (Str.ofString "x"))), (.cst (.str (Str.ofString "y")))]), (.tup []), (.fz (.dct [(.cst (.str (Str.ofString "a"))), (.tup [(.tup [(.var 2), (.var 1)]), (.tup [(.var 2), (.var 2)])])])),
    (.tup [(.tup [(.cst (.str (Str.ofString "a")))]), (.fz (.dct [(.cst (.str (Str.ofString "a"))), (.tup [(.cst (.str (Str.ofString "a")))])]))]), (.fz (.dct []))]),
  .asg (.nm 9) (.lst [(.cal 56 [(.var 8), (.cst (.str (Str.ofString "ahead"))), (.cst (.int 1))]), (.cal 61 [(.var 8), (.cst (.str (Str.ofString "behind"))), (.tup [(.var 2), (.var 1)])]), (.cal 55 [(.var 8), (.cst (.str (Str.ofString
    "ahead")))])]),
  .asg (.nm 9) (.bin .Add (.bor 9) (.lst [(.cal 57 [(.var 4), (.cst (.str (Str.ofString "ahead")))]), (.cal 57 [(.var 4), (.cst (.str (Str.ofString "behind")))]), (.cal 65 [(.var 4), (.cst (.str (Str.ofString "ahead"))), (.cst
    (.str (Str.ofString "a"))), (.tup [(.var 1)])])])),
  .app 9 (.cal 61 [(.var 4), (.cst (.str (Str.ofString "behind"))), (.tup [(.var 2)])]),
  .ret (.cmp .Eq (.bor 9) (.lst [(.tup [(.tup [(.var 1), (.var 2)])]), (.cst (.int 2)), (.cst (.int 2)), (.tup [(.tup [(.var 1)])]), (.tup []), (.cst (.int 1)), (.cst (.int 0))]))]
def d_law : Fd := ⟨"law", ["script", "one", "rest", "rules", "plant", "spot", "dice", "turn", "quiet", "told"], 1, [], [], b_law, none, false⟩
/-- InvalidCount.__init__ -/
def i_InvalidCount : Fd := ⟨"", ["self", "given", "__class__"], 2, [], [], [.exp (.fst [(.fmt true (.var 1)), (.cst (.str (Str.ofString " is given")))])], none, false⟩
/-- UnknownName.__init__ -/
def i_UnknownName : Fd := ⟨"", ["self", "wanted", "__class__"], 2, [], [], [.exp (.fst [(.fmt true (.var 1)), (.cst (.str (Str.ofString " is not there")))])], none, false⟩
/-- Plant.__init__ -/
def b_mk_Plant : List CS := [
  .ite (.cmp .IsNot (.cal 35 [(.var 1), (.var 2), (.var 3), (.var 4), (.var 5)]) (.cst .non)) [.rse 1 .txt] [],
  .stp 0 0 [0, 1] (.tup [(.var 1), (.var 2)]),
  .stf 0 0 2 (.bui .tuple [(.bui .srt [(.bor 3)])]),
  .stf 0 0 3 (.fz (.dcp [6] (.nm 6) .val [(.fld 0 2 (.bor 0))] [] (.var 6) (.sub (.bor 3) (.var 6)))),
  .stf 0 0 4 (.sub (.bor 4) (.cst (.int 0))),
  .stf 0 0 5 (.fz (.dcp [6] (.nm 6) .val [(.fld 0 2 (.bor 0))] [] (.var 6) (.sub (.sub (.bor 4) (.cst (.int 1))) (.var 6)))),
  .stf 0 0 6 (.fz (.dcp [6] (.nm 6) .val [(.bui .srt [(.bor 5)])] [] (.var 6) (.sub (.bor 5) (.var 6)))),
  .stf 0 0 7 (.bui .len [(.bor 1)]),
  .stf 0 0 8 (.bin .Add (.bui .len [(.bor 1)]) (.bui .len [(.bor 2)])),
  .stf 0 0 9 (.fz (.dcp [6] (.nm 6) .val [(.fld 0 2 (.bor 0))] [] (.var 6) (.bui .tuple [(.lc [7] (.nm 7) .val [(.sub (.bor 3) (.var 6))] [] (.slc (.bor 7) none (some (.fld 0 7 (.bor 0)))))]))),
  .stf 0 0 10 (.fz (.dcp [6] (.nm 6) .val [(.fld 0 2 (.bor 0))] [] (.var 6) (.slc (.cal 21 [(.sub (.bor 3) (.var 6)), (.fld 0 8 (.bor 0))]) (some (.fld 0 7 (.bor 0))) none)))]
def m_Plant : Fd := ⟨"", ["self", "places", "hands", "rules", "chart", "gauges", "name", "row"], 6, [], [0], b_mk_Plant, none, false⟩
def l_0 : Fd := ⟨"", ["dice", "plant", "none", "sight", "odd", "rule", "row", "fine", "call", "calls", "each"], 11, [], [], [.ret (.cav 8 [(.var 2), (.var 3)])], none, false⟩
def l_1 : Fd := ⟨"", ["dice", "plant", "none", "sight", "odd", "rule", "row", "fine", "call", "calls", "each"], 11, [], [], [.ret (.cav 8 [(.var 1), (.var 3)])], none, false⟩
def l_2 : Fd := ⟨"", ["dice", "plant", "none", "sight", "odd", "rule", "row", "fine", "call", "calls", "each"], 11, [], [], [.ret (.cav 8 [(.var 1), (.cst (.str (Str.ofString "ahead")))])], none, false⟩
def l_3 : Fd := ⟨"", ["dice", "plant", "none", "sight", "odd", "rule", "row", "fine", "call", "calls", "each"], 11, [], [], [.ret (.cav 8 [(.var 1), (.cst (.str (Str.ofString "behind")))])], none, false⟩
def l_4 : Fd := ⟨"", ["dice", "plant", "none", "sight", "odd", "rule", "row", "fine", "call", "calls", "each"], 11, [], [], [.ret (.cav 8 [(.var 2), (.var 3), (.var 4)])], none, false⟩
def l_5 : Fd := ⟨"", ["dice", "plant", "none", "sight", "odd", "rule", "row", "fine", "call", "calls", "each"], 11, [], [], [.ret (.cav 8 [(.var 1), (.var 3), (.var 4)])], none, false⟩
def l_6 : Fd := ⟨"", ["dice", "plant", "none", "sight", "odd", "rule", "row", "fine", "call", "calls", "each"], 11, [], [], [.ret (.cav 8 [(.var 1), (.cst (.str (Str.ofString "behind"))), (.var 4)])], none, false⟩
def l_7 : Fd := ⟨"", ["dice", "plant", "none", "sight", "odd", "rule", "row", "fine", "call", "calls", "each"], 11, [], [], [.ret (.cav 8 [(.var 1), (.cst (.str (Str.ofString "behind"))), (.cst (.int 60))])], none, false⟩
def l_8 : Fd := ⟨"", ["dice", "plant", "none", "sight", "odd", "rule", "row", "fine", "call", "calls", "each"], 11, [], [], [.ret (.cav 8 [(.var 2), (.var 3), (.var 6)])], none, false⟩
def l_9 : Fd := ⟨"", ["dice", "plant", "none", "sight", "odd", "rule", "row", "fine", "call", "calls", "each"], 11, [], [], [.ret (.cav 8 [(.var 1), (.var 3), (.var 6)])], none, false⟩
def l_10 : Fd := ⟨"", ["dice", "plant", "none", "sight", "odd", "rule", "row", "fine", "call", "calls", "each"], 11, [], [], [.ret (.cav 8 [(.var 1), (.cst (.str (Str.ofString "ahead"))), (.var 6)])], none, false⟩
def l_11 : Fd := ⟨"", ["dice", "plant", "none", "sight", "odd", "rule", "row", "fine", "call", "calls", "each"], 11, [], [], [.ret (.cav 8 [(.var 1), (.cst (.str (Str.ofString "ahead"))), (.var 7)])], none, false⟩
def l_12 : Fd := ⟨"", ["dice", "plant", "none", "sight", "odd", "rule", "row", "fine", "call", "calls", "each"], 11, [], [], [.ret (.cal 65 [(.var 2), (.var 3), (.var 5), (.var 6)])], none, false⟩
def l_13 : Fd := ⟨"", ["dice", "plant", "none", "sight", "odd", "rule", "row", "fine", "call", "calls", "each"], 11, [], [], [.ret (.cal 65 [(.var 1), (.var 3), (.var 5), (.var 6)])], none, false⟩
def l_14 : Fd := ⟨"", ["dice", "plant", "none", "sight", "odd", "rule", "row", "fine", "call", "calls", "each"], 11, [], [], [.ret (.cal 65 [(.var 1), (.cst (.str (Str.ofString "ahead"))), (.var 5), (.var 6)])], none, false⟩
def l_15 : Fd := ⟨"", ["dice", "plant", "none", "sight", "odd", "rule", "row", "fine", "call", "calls", "each"], 11, [], [], [.ret (.cal 65 [(.var 1), (.cst (.str (Str.ofString "ahead"))), (.cst (.str (Str.ofString "b"))), (.var 6)])], none, false⟩
def l_16 : Fd := ⟨"", ["dice", "plant", "none", "sight", "odd", "rule", "row", "fine", "call", "calls", "each"], 11, [], [], [.ret (.cal 65 [(.var 1), (.cst (.str (Str.ofString "behind"))), (.cst (.str (Str.ofString "b"))), (.var 7)])], none, false⟩
def rows : List Row := [
  ⟨15, d_is_integer, []⟩,
  ⟨16, d_is_name, []⟩,
  ⟨17, d_common_divisor, []⟩,
  ⟨18, d_is_number, []⟩,
  ⟨19, d_reduced, []⟩,
  ⟨20, d_require_count, [.int (0), .int (60)]⟩,
  ⟨21, d_added, []⟩,
  ⟨22, d_multiplied, []⟩,
  ⟨23, d_opposite, []⟩,
  ⟨24, d_divided, []⟩,
  ⟨26, d_is_plain_row, []⟩,
  ⟨27, d_is_plain_table, []⟩,
  ⟨28, d_first_index, []⟩,
  ⟨29, d_rest_row, []⟩,
  ⟨30, d_unit_row, []⟩,
  ⟨31, d_unit_table, []⟩,
  ⟨32, d_is_rest, []⟩,
  ⟨33, d_sum_of_rows, []⟩,
  ⟨34, d_times_row, []⟩,
  ⟨35, d_less_times, []⟩,
  ⟨36, d_led_told, []⟩,
  ⟨37, d_columns_of, []⟩,
  ⟨38, d_rest_by, []⟩,
  ⟨39, d_with_row, []⟩,
  ⟨40, d_spanned, []⟩,
  ⟨41, d_does_hold, []⟩,
  ⟨42, d_apart_from, []⟩,
  ⟨43, d_met_of, []⟩,
  ⟨51, d_are_names, []⟩,
  ⟨52, d_least_key, []⟩,
  ⟨53, d_names_fault, []⟩,
  ⟨54, d_rules_fault, []⟩,
  ⟨55, d_are_some, []⟩,
  ⟨56, d_chart_fault, []⟩,
  ⟨57, d_gauges_fault, []⟩,
  ⟨58, d_plant_fault, []⟩,
  ⟨60, d_require_plant, []⟩,
  ⟨61, d_require_sight, []⟩,
  ⟨62, d_require_both, []⟩,
  ⟨63, d_require_rule, []⟩,
  ⟨64, d_require_standing, []⟩,
  ⟨66, d_every_lot, []⟩,
  ⟨67, d_with_lot, []⟩,
  ⟨68, d_met_all, []⟩,
  ⟨69, d_pairs_at, []⟩,
  ⟨70, d_wholes_of, []⟩,
  ⟨71, d_lot_into, []⟩,
  ⟨72, d_back_of, []⟩,
  ⟨73, d_starts_of, []⟩,
  ⟨75, d_home_list, []⟩,
  ⟨76, d_spread_at, []⟩,
  ⟨77, d_last_of, []⟩,
  ⟨78, d_lots_of_starts, []⟩,
  ⟨79, d_home_spread, []⟩,
  ⟨80, d_last_spread, []⟩,
  ⟨81, d_steady_number, []⟩,
  ⟨82, d_home_lot_by, []⟩,
  ⟨83, d_home_lot, []⟩,
  ⟨84, d_least_holding, []⟩,
  ⟨85, d_require_start, []⟩,
  ⟨86, d_is_home, []⟩,
  ⟨87, d_home_ticks, []⟩,
  ⟨88, d_are_all, []⟩,
  ⟨89, d_is_all_home, []⟩,
  ⟨90, d_steady_ticks, []⟩,
  ⟨91, d_home_number, []⟩,
  ⟨93, d_law_dice, []⟩,
  ⟨94, d_law_roll, []⟩,
  ⟨95, d_law_pick, []⟩,
  ⟨96, d_law_word, []⟩,
  ⟨97, d_law_right, []⟩,
  ⟨98, d_law, []⟩]
def ms : List Row := [⟨59, m_Plant, []⟩]
def inis : List Fd := [i_InvalidCount, i_UnknownName, m_Plant, l_0, l_1, l_2, l_3, l_4, l_5, l_6, l_7, l_8, l_9, l_10, l_11, l_12, l_13, l_14, l_15, l_16]
def tb : Nat → Option Fd := tbOf rows inis
def T : Tb := ⟨tb, [("AHEAD", c_AHEAD), ("BEHIND", c_BEHIND), ("LETTERS", c_LETTERS), ("MAX_COUNT", c_MAX_COUNT), ("MAX_GAUGES", c_MAX_GAUGES), ("MAX_HANDS", c_MAX_HANDS), ("MAX_LETTERS", c_MAX_LETTERS), ("MAX_PLACES", c_MAX_PLACES), ("MAX_RULES", c_MAX_RULES), ("NOUGHT", c_NOUGHT), ("ONE", c_ONE), ("SIGNS", c_SIGNS)], [("InvalidCount", some (72, "given")), ("InvalidPlant", none), ("InvalidOperation", none), ("UnknownName", some (73, "wanted")), ("InvalidRow", none)], [("Plant", ["own_places", "own_hands", "own_names", "own_rules", "own_firsts", "own_follows", "own_gauges", "own_width", "own_wide", "own_free", "own_columns"], 74)]⟩
@[simp] theorem tb_is_integer : tb 0 = some d_is_integer := rfl
@[simp] theorem np_is_integer : d_is_integer.np = 1 := rfl
@[simp] theorem nl_is_integer : d_is_integer.N.length = 1 := rfl
@[simp] theorem mp_is_integer : d_is_integer.mp = [] := rfl
@[simp] theorem df_is_integer : d_is_integer.dfl = [] := rfl
@[simp] theorem bo_is_integer : d_is_integer.body = b_is_integer := rfl
@[simp] theorem tb_is_name : tb 1 = some d_is_name := rfl
@[simp] theorem np_is_name : d_is_name.np = 1 := rfl
@[simp] theorem nl_is_name : d_is_name.N.length = 2 := rfl
@[simp] theorem mp_is_name : d_is_name.mp = [] := rfl
@[simp] theorem df_is_name : d_is_name.dfl = [] := rfl
@[simp] theorem bo_is_name : d_is_name.body = b_is_name := rfl
@[simp] theorem tb_common_divisor : tb 2 = some d_common_divisor := rfl
@[simp] theorem np_common_divisor : d_common_divisor.np = 2 := rfl
@[simp] theorem nl_common_divisor : d_common_divisor.N.length = 2 := rfl
@[simp] theorem mp_common_divisor : d_common_divisor.mp = [] := rfl
@[simp] theorem df_common_divisor : d_common_divisor.dfl = [] := rfl
@[simp] theorem bo_common_divisor : d_common_divisor.body = b_common_divisor := rfl
@[simp] theorem tb_is_number : tb 3 = some d_is_number := rfl
@[simp] theorem np_is_number : d_is_number.np = 1 := rfl
@[simp] theorem nl_is_number : d_is_number.N.length = 2 := rfl
@[simp] theorem mp_is_number : d_is_number.mp = [] := rfl
@[simp] theorem df_is_number : d_is_number.dfl = [] := rfl
@[simp] theorem bo_is_number : d_is_number.body = b_is_number := rfl
@[simp] theorem tb_reduced : tb 4 = some d_reduced := rfl
@[simp] theorem np_reduced : d_reduced.np = 2 := rfl
@[simp] theorem nl_reduced : d_reduced.N.length = 3 := rfl
@[simp] theorem mp_reduced : d_reduced.mp = [] := rfl
@[simp] theorem df_reduced : d_reduced.dfl = [] := rfl
@[simp] theorem bo_reduced : d_reduced.body = b_reduced := rfl
@[simp] theorem tb_require_count : tb 5 = some d_require_count := rfl
@[simp] theorem np_require_count : d_require_count.np = 3 := rfl
@[simp] theorem nl_require_count : d_require_count.N.length = 3 := rfl
@[simp] theorem mp_require_count : d_require_count.mp = [] := rfl
@[simp] theorem df_require_count : d_require_count.dfl = [(.int 0), (.int 60)] := rfl
@[simp] theorem bo_require_count : d_require_count.body = b_require_count := rfl
@[simp] theorem tb_added : tb 6 = some d_added := rfl
@[simp] theorem np_added : d_added.np = 2 := rfl
@[simp] theorem nl_added : d_added.N.length = 2 := rfl
@[simp] theorem mp_added : d_added.mp = [] := rfl
@[simp] theorem df_added : d_added.dfl = [] := rfl
@[simp] theorem bo_added : d_added.body = b_added := rfl
@[simp] theorem tb_multiplied : tb 7 = some d_multiplied := rfl
@[simp] theorem np_multiplied : d_multiplied.np = 2 := rfl
@[simp] theorem nl_multiplied : d_multiplied.N.length = 2 := rfl
@[simp] theorem mp_multiplied : d_multiplied.mp = [] := rfl
@[simp] theorem df_multiplied : d_multiplied.dfl = [] := rfl
@[simp] theorem bo_multiplied : d_multiplied.body = b_multiplied := rfl
@[simp] theorem tb_opposite : tb 8 = some d_opposite := rfl
@[simp] theorem np_opposite : d_opposite.np = 1 := rfl
@[simp] theorem nl_opposite : d_opposite.N.length = 1 := rfl
@[simp] theorem mp_opposite : d_opposite.mp = [] := rfl
@[simp] theorem df_opposite : d_opposite.dfl = [] := rfl
@[simp] theorem bo_opposite : d_opposite.body = b_opposite := rfl
@[simp] theorem tb_divided : tb 9 = some d_divided := rfl
@[simp] theorem np_divided : d_divided.np = 2 := rfl
@[simp] theorem nl_divided : d_divided.N.length = 2 := rfl
@[simp] theorem mp_divided : d_divided.mp = [] := rfl
@[simp] theorem df_divided : d_divided.dfl = [] := rfl
@[simp] theorem bo_divided : d_divided.body = b_divided := rfl
@[simp] theorem tb_is_plain_row : tb 10 = some d_is_plain_row := rfl
@[simp] theorem np_is_plain_row : d_is_plain_row.np = 2 := rfl
@[simp] theorem nl_is_plain_row : d_is_plain_row.N.length = 3 := rfl
@[simp] theorem mp_is_plain_row : d_is_plain_row.mp = [] := rfl
@[simp] theorem df_is_plain_row : d_is_plain_row.dfl = [] := rfl
@[simp] theorem bo_is_plain_row : d_is_plain_row.body = b_is_plain_row := rfl
@[simp] theorem tb_is_plain_table : tb 11 = some d_is_plain_table := rfl
@[simp] theorem np_is_plain_table : d_is_plain_table.np = 3 := rfl
@[simp] theorem nl_is_plain_table : d_is_plain_table.N.length = 4 := rfl
@[simp] theorem mp_is_plain_table : d_is_plain_table.mp = [] := rfl
@[simp] theorem df_is_plain_table : d_is_plain_table.dfl = [] := rfl
@[simp] theorem bo_is_plain_table : d_is_plain_table.body = b_is_plain_table := rfl
@[simp] theorem tb_first_index : tb 12 = some d_first_index := rfl
@[simp] theorem np_first_index : d_first_index.np = 1 := rfl
@[simp] theorem nl_first_index : d_first_index.N.length = 3 := rfl
@[simp] theorem mp_first_index : d_first_index.mp = [] := rfl
@[simp] theorem df_first_index : d_first_index.dfl = [] := rfl
@[simp] theorem bo_first_index : d_first_index.body = b_first_index := rfl
@[simp] theorem tb_rest_row : tb 13 = some d_rest_row := rfl
@[simp] theorem np_rest_row : d_rest_row.np = 1 := rfl
@[simp] theorem nl_rest_row : d_rest_row.N.length = 1 := rfl
@[simp] theorem mp_rest_row : d_rest_row.mp = [] := rfl
@[simp] theorem df_rest_row : d_rest_row.dfl = [] := rfl
@[simp] theorem bo_rest_row : d_rest_row.body = b_rest_row := rfl
@[simp] theorem tb_unit_row : tb 14 = some d_unit_row := rfl
@[simp] theorem np_unit_row : d_unit_row.np = 2 := rfl
@[simp] theorem nl_unit_row : d_unit_row.N.length = 3 := rfl
@[simp] theorem mp_unit_row : d_unit_row.mp = [] := rfl
@[simp] theorem df_unit_row : d_unit_row.dfl = [] := rfl
@[simp] theorem bo_unit_row : d_unit_row.body = b_unit_row := rfl
@[simp] theorem tb_unit_table : tb 15 = some d_unit_table := rfl
@[simp] theorem np_unit_table : d_unit_table.np = 1 := rfl
@[simp] theorem nl_unit_table : d_unit_table.N.length = 2 := rfl
@[simp] theorem mp_unit_table : d_unit_table.mp = [] := rfl
@[simp] theorem df_unit_table : d_unit_table.dfl = [] := rfl
@[simp] theorem bo_unit_table : d_unit_table.body = b_unit_table := rfl
@[simp] theorem tb_is_rest : tb 16 = some d_is_rest := rfl
@[simp] theorem np_is_rest : d_is_rest.np = 1 := rfl
@[simp] theorem nl_is_rest : d_is_rest.N.length = 1 := rfl
@[simp] theorem mp_is_rest : d_is_rest.mp = [] := rfl
@[simp] theorem df_is_rest : d_is_rest.dfl = [] := rfl
@[simp] theorem bo_is_rest : d_is_rest.body = b_is_rest := rfl
@[simp] theorem tb_sum_of_rows : tb 17 = some d_sum_of_rows := rfl
@[simp] theorem np_sum_of_rows : d_sum_of_rows.np = 2 := rfl
@[simp] theorem nl_sum_of_rows : d_sum_of_rows.N.length = 4 := rfl
@[simp] theorem mp_sum_of_rows : d_sum_of_rows.mp = [] := rfl
@[simp] theorem df_sum_of_rows : d_sum_of_rows.dfl = [] := rfl
@[simp] theorem bo_sum_of_rows : d_sum_of_rows.body = b_sum_of_rows := rfl
@[simp] theorem tb_times_row : tb 18 = some d_times_row := rfl
@[simp] theorem np_times_row : d_times_row.np = 2 := rfl
@[simp] theorem nl_times_row : d_times_row.N.length = 3 := rfl
@[simp] theorem mp_times_row : d_times_row.mp = [] := rfl
@[simp] theorem df_times_row : d_times_row.dfl = [] := rfl
@[simp] theorem bo_times_row : d_times_row.body = b_times_row := rfl
@[simp] theorem tb_less_times : tb 19 = some d_less_times := rfl
@[simp] theorem np_less_times : d_less_times.np = 3 := rfl
@[simp] theorem nl_less_times : d_less_times.N.length = 3 := rfl
@[simp] theorem mp_less_times : d_less_times.mp = [] := rfl
@[simp] theorem df_less_times : d_less_times.dfl = [] := rfl
@[simp] theorem bo_less_times : d_less_times.body = b_less_times := rfl
@[simp] theorem tb_led_told : tb 20 = some d_led_told := rfl
@[simp] theorem np_led_told : d_led_told.np = 3 := rfl
@[simp] theorem nl_led_told : d_led_told.N.length = 6 := rfl
@[simp] theorem mp_led_told : d_led_told.mp = [] := rfl
@[simp] theorem df_led_told : d_led_told.dfl = [] := rfl
@[simp] theorem bo_led_told : d_led_told.body = b_led_told := rfl
@[simp] theorem tb_columns_of : tb 21 = some d_columns_of := rfl
@[simp] theorem np_columns_of : d_columns_of.np = 2 := rfl
@[simp] theorem nl_columns_of : d_columns_of.N.length = 4 := rfl
@[simp] theorem mp_columns_of : d_columns_of.mp = [] := rfl
@[simp] theorem df_columns_of : d_columns_of.dfl = [] := rfl
@[simp] theorem bo_columns_of : d_columns_of.body = b_columns_of := rfl
@[simp] theorem tb_rest_by : tb 22 = some d_rest_by := rfl
@[simp] theorem np_rest_by : d_rest_by.np = 2 := rfl
@[simp] theorem nl_rest_by : d_rest_by.N.length = 4 := rfl
@[simp] theorem mp_rest_by : d_rest_by.mp = [] := rfl
@[simp] theorem df_rest_by : d_rest_by.dfl = [] := rfl
@[simp] theorem bo_rest_by : d_rest_by.body = b_rest_by := rfl
@[simp] theorem tb_with_row : tb 23 = some d_with_row := rfl
@[simp] theorem np_with_row : d_with_row.np = 2 := rfl
@[simp] theorem nl_with_row : d_with_row.N.length = 6 := rfl
@[simp] theorem mp_with_row : d_with_row.mp = [] := rfl
@[simp] theorem df_with_row : d_with_row.dfl = [] := rfl
@[simp] theorem bo_with_row : d_with_row.body = b_with_row := rfl
@[simp] theorem tb_spanned : tb 24 = some d_spanned := rfl
@[simp] theorem np_spanned : d_spanned.np = 1 := rfl
@[simp] theorem nl_spanned : d_spanned.N.length = 3 := rfl
@[simp] theorem mp_spanned : d_spanned.mp = [] := rfl
@[simp] theorem df_spanned : d_spanned.dfl = [] := rfl
@[simp] theorem bo_spanned : d_spanned.body = b_spanned := rfl
@[simp] theorem tb_does_hold : tb 25 = some d_does_hold := rfl
@[simp] theorem np_does_hold : d_does_hold.np = 2 := rfl
@[simp] theorem nl_does_hold : d_does_hold.N.length = 2 := rfl
@[simp] theorem mp_does_hold : d_does_hold.mp = [] := rfl
@[simp] theorem df_does_hold : d_does_hold.dfl = [] := rfl
@[simp] theorem bo_does_hold : d_does_hold.body = b_does_hold := rfl
@[simp] theorem tb_apart_from : tb 26 = some d_apart_from := rfl
@[simp] theorem np_apart_from : d_apart_from.np = 2 := rfl
@[simp] theorem nl_apart_from : d_apart_from.N.length = 9 := rfl
@[simp] theorem mp_apart_from : d_apart_from.mp = [] := rfl
@[simp] theorem df_apart_from : d_apart_from.dfl = [] := rfl
@[simp] theorem bo_apart_from : d_apart_from.body = b_apart_from := rfl
@[simp] theorem tb_met_of : tb 27 = some d_met_of := rfl
@[simp] theorem np_met_of : d_met_of.np = 3 := rfl
@[simp] theorem nl_met_of : d_met_of.N.length = 3 := rfl
@[simp] theorem mp_met_of : d_met_of.mp = [] := rfl
@[simp] theorem df_met_of : d_met_of.dfl = [] := rfl
@[simp] theorem bo_met_of : d_met_of.body = b_met_of := rfl
@[simp] theorem tb_are_names : tb 28 = some d_are_names := rfl
@[simp] theorem np_are_names : d_are_names.np = 3 := rfl
@[simp] theorem nl_are_names : d_are_names.N.length = 6 := rfl
@[simp] theorem mp_are_names : d_are_names.mp = [] := rfl
@[simp] theorem df_are_names : d_are_names.dfl = [] := rfl
@[simp] theorem bo_are_names : d_are_names.body = b_are_names := rfl
@[simp] theorem tb_least_key : tb 29 = some d_least_key := rfl
@[simp] theorem np_least_key : d_least_key.np = 1 := rfl
@[simp] theorem nl_least_key : d_least_key.N.length = 1 := rfl
@[simp] theorem mp_least_key : d_least_key.mp = [] := rfl
@[simp] theorem df_least_key : d_least_key.dfl = [] := rfl
@[simp] theorem bo_least_key : d_least_key.body = b_least_key := rfl
@[simp] theorem tb_names_fault : tb 30 = some d_names_fault := rfl
@[simp] theorem np_names_fault : d_names_fault.np = 2 := rfl
@[simp] theorem nl_names_fault : d_names_fault.N.length = 4 := rfl
@[simp] theorem mp_names_fault : d_names_fault.mp = [] := rfl
@[simp] theorem df_names_fault : d_names_fault.dfl = [] := rfl
@[simp] theorem bo_names_fault : d_names_fault.body = b_names_fault := rfl
@[simp] theorem tb_rules_fault : tb 31 = some d_rules_fault := rfl
@[simp] theorem np_rules_fault : d_rules_fault.np = 3 := rfl
@[simp] theorem nl_rules_fault : d_rules_fault.N.length = 5 := rfl
@[simp] theorem mp_rules_fault : d_rules_fault.mp = [] := rfl
@[simp] theorem df_rules_fault : d_rules_fault.dfl = [] := rfl
@[simp] theorem bo_rules_fault : d_rules_fault.body = b_rules_fault := rfl
@[simp] theorem tb_are_some : tb 32 = some d_are_some := rfl
@[simp] theorem np_are_some : d_are_some.np = 2 := rfl
@[simp] theorem nl_are_some : d_are_some.N.length = 3 := rfl
@[simp] theorem mp_are_some : d_are_some.mp = [] := rfl
@[simp] theorem df_are_some : d_are_some.dfl = [] := rfl
@[simp] theorem bo_are_some : d_are_some.body = b_are_some := rfl
@[simp] theorem tb_chart_fault : tb 33 = some d_chart_fault := rfl
@[simp] theorem np_chart_fault : d_chart_fault.np = 2 := rfl
@[simp] theorem nl_chart_fault : d_chart_fault.N.length = 6 := rfl
@[simp] theorem mp_chart_fault : d_chart_fault.mp = [] := rfl
@[simp] theorem df_chart_fault : d_chart_fault.dfl = [] := rfl
@[simp] theorem bo_chart_fault : d_chart_fault.body = b_chart_fault := rfl
@[simp] theorem tb_gauges_fault : tb 34 = some d_gauges_fault := rfl
@[simp] theorem np_gauges_fault : d_gauges_fault.np = 2 := rfl
@[simp] theorem nl_gauges_fault : d_gauges_fault.N.length = 4 := rfl
@[simp] theorem mp_gauges_fault : d_gauges_fault.mp = [] := rfl
@[simp] theorem df_gauges_fault : d_gauges_fault.dfl = [] := rfl
@[simp] theorem bo_gauges_fault : d_gauges_fault.body = b_gauges_fault := rfl
@[simp] theorem tb_plant_fault : tb 35 = some d_plant_fault := rfl
@[simp] theorem np_plant_fault : d_plant_fault.np = 5 := rfl
@[simp] theorem nl_plant_fault : d_plant_fault.N.length = 6 := rfl
@[simp] theorem mp_plant_fault : d_plant_fault.mp = [] := rfl
@[simp] theorem df_plant_fault : d_plant_fault.dfl = [] := rfl
@[simp] theorem bo_plant_fault : d_plant_fault.body = b_plant_fault := rfl
@[simp] theorem tb_require_plant : tb 36 = some d_require_plant := rfl
@[simp] theorem np_require_plant : d_require_plant.np = 1 := rfl
@[simp] theorem nl_require_plant : d_require_plant.N.length = 1 := rfl
@[simp] theorem mp_require_plant : d_require_plant.mp = [] := rfl
@[simp] theorem df_require_plant : d_require_plant.dfl = [] := rfl
@[simp] theorem bo_require_plant : d_require_plant.body = b_require_plant := rfl
@[simp] theorem tb_require_sight : tb 37 = some d_require_sight := rfl
@[simp] theorem np_require_sight : d_require_sight.np = 1 := rfl
@[simp] theorem nl_require_sight : d_require_sight.N.length = 1 := rfl
@[simp] theorem mp_require_sight : d_require_sight.mp = [] := rfl
@[simp] theorem df_require_sight : d_require_sight.dfl = [] := rfl
@[simp] theorem bo_require_sight : d_require_sight.body = b_require_sight := rfl
@[simp] theorem tb_require_both : tb 38 = some d_require_both := rfl
@[simp] theorem np_require_both : d_require_both.np = 2 := rfl
@[simp] theorem nl_require_both : d_require_both.N.length = 2 := rfl
@[simp] theorem mp_require_both : d_require_both.mp = [] := rfl
@[simp] theorem df_require_both : d_require_both.dfl = [] := rfl
@[simp] theorem bo_require_both : d_require_both.body = b_require_both := rfl
@[simp] theorem tb_require_rule : tb 39 = some d_require_rule := rfl
@[simp] theorem np_require_rule : d_require_rule.np = 2 := rfl
@[simp] theorem nl_require_rule : d_require_rule.N.length = 2 := rfl
@[simp] theorem mp_require_rule : d_require_rule.mp = [] := rfl
@[simp] theorem df_require_rule : d_require_rule.dfl = [] := rfl
@[simp] theorem bo_require_rule : d_require_rule.body = b_require_rule := rfl
@[simp] theorem tb_require_standing : tb 40 = some d_require_standing := rfl
@[simp] theorem np_require_standing : d_require_standing.np = 2 := rfl
@[simp] theorem nl_require_standing : d_require_standing.N.length = 2 := rfl
@[simp] theorem mp_require_standing : d_require_standing.mp = [] := rfl
@[simp] theorem df_require_standing : d_require_standing.dfl = [] := rfl
@[simp] theorem bo_require_standing : d_require_standing.body = b_require_standing := rfl
@[simp] theorem tb_every_lot : tb 41 = some d_every_lot := rfl
@[simp] theorem np_every_lot : d_every_lot.np = 1 := rfl
@[simp] theorem nl_every_lot : d_every_lot.N.length = 1 := rfl
@[simp] theorem mp_every_lot : d_every_lot.mp = [] := rfl
@[simp] theorem df_every_lot : d_every_lot.dfl = [] := rfl
@[simp] theorem bo_every_lot : d_every_lot.body = b_every_lot := rfl
@[simp] theorem tb_with_lot : tb 42 = some d_with_lot := rfl
@[simp] theorem np_with_lot : d_with_lot.np = 2 := rfl
@[simp] theorem nl_with_lot : d_with_lot.N.length = 3 := rfl
@[simp] theorem mp_with_lot : d_with_lot.mp = [] := rfl
@[simp] theorem df_with_lot : d_with_lot.dfl = [] := rfl
@[simp] theorem bo_with_lot : d_with_lot.body = b_with_lot := rfl
@[simp] theorem tb_met_all : tb 43 = some d_met_all := rfl
@[simp] theorem np_met_all : d_met_all.np = 2 := rfl
@[simp] theorem nl_met_all : d_met_all.N.length = 4 := rfl
@[simp] theorem mp_met_all : d_met_all.mp = [] := rfl
@[simp] theorem df_met_all : d_met_all.dfl = [] := rfl
@[simp] theorem bo_met_all : d_met_all.body = b_met_all := rfl
@[simp] theorem tb_pairs_at : tb 44 = some d_pairs_at := rfl
@[simp] theorem np_pairs_at : d_pairs_at.np = 4 := rfl
@[simp] theorem nl_pairs_at : d_pairs_at.N.length = 6 := rfl
@[simp] theorem mp_pairs_at : d_pairs_at.mp = [] := rfl
@[simp] theorem df_pairs_at : d_pairs_at.dfl = [] := rfl
@[simp] theorem bo_pairs_at : d_pairs_at.body = b_pairs_at := rfl
@[simp] theorem tb_wholes_of : tb 45 = some d_wholes_of := rfl
@[simp] theorem np_wholes_of : d_wholes_of.np = 2 := rfl
@[simp] theorem nl_wholes_of : d_wholes_of.N.length = 6 := rfl
@[simp] theorem mp_wholes_of : d_wholes_of.mp = [] := rfl
@[simp] theorem df_wholes_of : d_wholes_of.dfl = [] := rfl
@[simp] theorem bo_wholes_of : d_wholes_of.body = b_wholes_of := rfl
@[simp] theorem tb_lot_into : tb 46 = some d_lot_into := rfl
@[simp] theorem np_lot_into : d_lot_into.np = 2 := rfl
@[simp] theorem nl_lot_into : d_lot_into.N.length = 4 := rfl
@[simp] theorem mp_lot_into : d_lot_into.mp = [] := rfl
@[simp] theorem df_lot_into : d_lot_into.dfl = [] := rfl
@[simp] theorem bo_lot_into : d_lot_into.body = b_lot_into := rfl
@[simp] theorem tb_back_of : tb 47 = some d_back_of := rfl
@[simp] theorem np_back_of : d_back_of.np = 3 := rfl
@[simp] theorem nl_back_of : d_back_of.N.length = 4 := rfl
@[simp] theorem mp_back_of : d_back_of.mp = [] := rfl
@[simp] theorem df_back_of : d_back_of.dfl = [] := rfl
@[simp] theorem bo_back_of : d_back_of.body = b_back_of := rfl
@[simp] theorem tb_starts_of : tb 48 = some d_starts_of := rfl
@[simp] theorem np_starts_of : d_starts_of.np = 3 := rfl
@[simp] theorem nl_starts_of : d_starts_of.N.length = 4 := rfl
@[simp] theorem mp_starts_of : d_starts_of.mp = [] := rfl
@[simp] theorem df_starts_of : d_starts_of.dfl = [] := rfl
@[simp] theorem bo_starts_of : d_starts_of.body = b_starts_of := rfl
@[simp] theorem tb_home_list : tb 49 = some d_home_list := rfl
@[simp] theorem np_home_list : d_home_list.np = 2 := rfl
@[simp] theorem nl_home_list : d_home_list.N.length = 4 := rfl
@[simp] theorem mp_home_list : d_home_list.mp = [] := rfl
@[simp] theorem df_home_list : d_home_list.dfl = [] := rfl
@[simp] theorem bo_home_list : d_home_list.body = b_home_list := rfl
@[simp] theorem tb_spread_at : tb 50 = some d_spread_at := rfl
@[simp] theorem np_spread_at : d_spread_at.np = 2 := rfl
@[simp] theorem nl_spread_at : d_spread_at.N.length = 2 := rfl
@[simp] theorem mp_spread_at : d_spread_at.mp = [] := rfl
@[simp] theorem df_spread_at : d_spread_at.dfl = [] := rfl
@[simp] theorem bo_spread_at : d_spread_at.body = b_spread_at := rfl
@[simp] theorem tb_last_of : tb 51 = some d_last_of := rfl
@[simp] theorem np_last_of : d_last_of.np = 2 := rfl
@[simp] theorem nl_last_of : d_last_of.N.length = 2 := rfl
@[simp] theorem mp_last_of : d_last_of.mp = [] := rfl
@[simp] theorem df_last_of : d_last_of.dfl = [] := rfl
@[simp] theorem bo_last_of : d_last_of.body = b_last_of := rfl
@[simp] theorem tb_lots_of_starts : tb 52 = some d_lots_of_starts := rfl
@[simp] theorem np_lots_of_starts : d_lots_of_starts.np = 3 := rfl
@[simp] theorem nl_lots_of_starts : d_lots_of_starts.N.length = 5 := rfl
@[simp] theorem mp_lots_of_starts : d_lots_of_starts.mp = [] := rfl
@[simp] theorem df_lots_of_starts : d_lots_of_starts.dfl = [] := rfl
@[simp] theorem bo_lots_of_starts : d_lots_of_starts.body = b_lots_of_starts := rfl
@[simp] theorem tb_home_spread : tb 53 = some d_home_spread := rfl
@[simp] theorem np_home_spread : d_home_spread.np = 3 := rfl
@[simp] theorem nl_home_spread : d_home_spread.N.length = 3 := rfl
@[simp] theorem mp_home_spread : d_home_spread.mp = [] := rfl
@[simp] theorem df_home_spread : d_home_spread.dfl = [] := rfl
@[simp] theorem bo_home_spread : d_home_spread.body = b_home_spread := rfl
@[simp] theorem tb_last_spread : tb 54 = some d_last_spread := rfl
@[simp] theorem np_last_spread : d_last_spread.np = 2 := rfl
@[simp] theorem nl_last_spread : d_last_spread.N.length = 2 := rfl
@[simp] theorem mp_last_spread : d_last_spread.mp = [] := rfl
@[simp] theorem df_last_spread : d_last_spread.dfl = [] := rfl
@[simp] theorem bo_last_spread : d_last_spread.body = b_last_spread := rfl
@[simp] theorem tb_steady_number : tb 55 = some d_steady_number := rfl
@[simp] theorem np_steady_number : d_steady_number.np = 2 := rfl
@[simp] theorem nl_steady_number : d_steady_number.N.length = 2 := rfl
@[simp] theorem mp_steady_number : d_steady_number.mp = [] := rfl
@[simp] theorem df_steady_number : d_steady_number.dfl = [] := rfl
@[simp] theorem bo_steady_number : d_steady_number.body = b_steady_number := rfl
@[simp] theorem tb_home_lot_by : tb 56 = some d_home_lot_by := rfl
@[simp] theorem np_home_lot_by : d_home_lot_by.np = 3 := rfl
@[simp] theorem nl_home_lot_by : d_home_lot_by.N.length = 4 := rfl
@[simp] theorem mp_home_lot_by : d_home_lot_by.mp = [] := rfl
@[simp] theorem df_home_lot_by : d_home_lot_by.dfl = [] := rfl
@[simp] theorem bo_home_lot_by : d_home_lot_by.body = b_home_lot_by := rfl
@[simp] theorem tb_home_lot : tb 57 = some d_home_lot := rfl
@[simp] theorem np_home_lot : d_home_lot.np = 2 := rfl
@[simp] theorem nl_home_lot : d_home_lot.N.length = 2 := rfl
@[simp] theorem mp_home_lot : d_home_lot.mp = [] := rfl
@[simp] theorem df_home_lot : d_home_lot.dfl = [] := rfl
@[simp] theorem bo_home_lot : d_home_lot.body = b_home_lot := rfl
@[simp] theorem tb_least_holding : tb 58 = some d_least_holding := rfl
@[simp] theorem np_least_holding : d_least_holding.np = 2 := rfl
@[simp] theorem nl_least_holding : d_least_holding.N.length = 4 := rfl
@[simp] theorem mp_least_holding : d_least_holding.mp = [] := rfl
@[simp] theorem df_least_holding : d_least_holding.dfl = [] := rfl
@[simp] theorem bo_least_holding : d_least_holding.body = b_least_holding := rfl
@[simp] theorem tb_require_start : tb 59 = some d_require_start := rfl
@[simp] theorem np_require_start : d_require_start.np = 3 := rfl
@[simp] theorem nl_require_start : d_require_start.N.length = 3 := rfl
@[simp] theorem mp_require_start : d_require_start.mp = [] := rfl
@[simp] theorem df_require_start : d_require_start.dfl = [] := rfl
@[simp] theorem bo_require_start : d_require_start.body = b_require_start := rfl
@[simp] theorem tb_is_home : tb 60 = some d_is_home := rfl
@[simp] theorem np_is_home : d_is_home.np = 3 := rfl
@[simp] theorem nl_is_home : d_is_home.N.length = 3 := rfl
@[simp] theorem mp_is_home : d_is_home.mp = [] := rfl
@[simp] theorem df_is_home : d_is_home.dfl = [] := rfl
@[simp] theorem bo_is_home : d_is_home.body = b_is_home := rfl
@[simp] theorem tb_home_ticks : tb 61 = some d_home_ticks := rfl
@[simp] theorem np_home_ticks : d_home_ticks.np = 3 := rfl
@[simp] theorem nl_home_ticks : d_home_ticks.N.length = 3 := rfl
@[simp] theorem mp_home_ticks : d_home_ticks.mp = [] := rfl
@[simp] theorem df_home_ticks : d_home_ticks.dfl = [] := rfl
@[simp] theorem bo_home_ticks : d_home_ticks.body = b_home_ticks := rfl
@[simp] theorem tb_are_all : tb 62 = some d_are_all := rfl
@[simp] theorem np_are_all : d_are_all.np = 2 := rfl
@[simp] theorem nl_are_all : d_are_all.N.length = 2 := rfl
@[simp] theorem mp_are_all : d_are_all.mp = [] := rfl
@[simp] theorem df_are_all : d_are_all.dfl = [] := rfl
@[simp] theorem bo_are_all : d_are_all.body = b_are_all := rfl
@[simp] theorem tb_is_all_home : tb 63 = some d_is_all_home := rfl
@[simp] theorem np_is_all_home : d_is_all_home.np = 2 := rfl
@[simp] theorem nl_is_all_home : d_is_all_home.N.length = 2 := rfl
@[simp] theorem mp_is_all_home : d_is_all_home.mp = [] := rfl
@[simp] theorem df_is_all_home : d_is_all_home.dfl = [] := rfl
@[simp] theorem bo_is_all_home : d_is_all_home.body = b_is_all_home := rfl
@[simp] theorem tb_steady_ticks : tb 64 = some d_steady_ticks := rfl
@[simp] theorem np_steady_ticks : d_steady_ticks.np = 2 := rfl
@[simp] theorem nl_steady_ticks : d_steady_ticks.N.length = 3 := rfl
@[simp] theorem mp_steady_ticks : d_steady_ticks.mp = [] := rfl
@[simp] theorem df_steady_ticks : d_steady_ticks.dfl = [] := rfl
@[simp] theorem bo_steady_ticks : d_steady_ticks.body = b_steady_ticks := rfl
@[simp] theorem tb_home_number : tb 65 = some d_home_number := rfl
@[simp] theorem np_home_number : d_home_number.np = 4 := rfl
@[simp] theorem nl_home_number : d_home_number.N.length = 5 := rfl
@[simp] theorem mp_home_number : d_home_number.mp = [] := rfl
@[simp] theorem df_home_number : d_home_number.dfl = [] := rfl
@[simp] theorem bo_home_number : d_home_number.body = b_home_number := rfl
@[simp] theorem tb_law_dice : tb 66 = some d_law_dice := rfl
@[simp] theorem np_law_dice : d_law_dice.np = 2 := rfl
@[simp] theorem nl_law_dice : d_law_dice.N.length = 5 := rfl
@[simp] theorem mp_law_dice : d_law_dice.mp = [] := rfl
@[simp] theorem df_law_dice : d_law_dice.dfl = [] := rfl
@[simp] theorem bo_law_dice : d_law_dice.body = b_law_dice := rfl
@[simp] theorem tb_law_roll : tb 67 = some d_law_roll := rfl
@[simp] theorem np_law_roll : d_law_roll.np = 2 := rfl
@[simp] theorem nl_law_roll : d_law_roll.N.length = 5 := rfl
@[simp] theorem mp_law_roll : d_law_roll.mp = [0] := rfl
@[simp] theorem df_law_roll : d_law_roll.dfl = [] := rfl
@[simp] theorem bo_law_roll : d_law_roll.body = b_law_roll := rfl
@[simp] theorem tb_law_pick : tb 68 = some d_law_pick := rfl
@[simp] theorem np_law_pick : d_law_pick.np = 2 := rfl
@[simp] theorem nl_law_pick : d_law_pick.N.length = 2 := rfl
@[simp] theorem mp_law_pick : d_law_pick.mp = [0] := rfl
@[simp] theorem df_law_pick : d_law_pick.dfl = [] := rfl
@[simp] theorem bo_law_pick : d_law_pick.body = b_law_pick := rfl
@[simp] theorem tb_law_word : tb 69 = some d_law_word := rfl
@[simp] theorem np_law_word : d_law_word.np = 1 := rfl
@[simp] theorem nl_law_word : d_law_word.N.length = 2 := rfl
@[simp] theorem mp_law_word : d_law_word.mp = [] := rfl
@[simp] theorem df_law_word : d_law_word.dfl = [] := rfl
@[simp] theorem bo_law_word : d_law_word.body = b_law_word := rfl
@[simp] theorem tb_law_right : tb 70 = some d_law_right := rfl
@[simp] theorem np_law_right : d_law_right.np = 2 := rfl
@[simp] theorem nl_law_right : d_law_right.N.length = 11 := rfl
@[simp] theorem mp_law_right : d_law_right.mp = [0] := rfl
@[simp] theorem df_law_right : d_law_right.dfl = [] := rfl
@[simp] theorem bo_law_right : d_law_right.body = b_law_right := rfl
@[simp] theorem tb_law : tb 71 = some d_law := rfl
@[simp] theorem np_law : d_law.np = 1 := rfl
@[simp] theorem nl_law : d_law.N.length = 10 := rfl
@[simp] theorem mp_law : d_law.mp = [] := rfl
@[simp] theorem df_law : d_law.dfl = [] := rfl
@[simp] theorem bo_law : d_law.body = b_law := rfl
abbrev P : Program := PySem.Challenge.pw_anyrules_k41_errors_of_home
open HandSHeadRun in
section
open HandSHeadRun
theorem bd_is_integer : BindOk (topDef P 15).params (d_is_integer.N.take d_is_integer.np) d_is_integer.dfl.length := by
  intro _ _ _ _ _ _ _ _ _ _ us hl
  exact match us, hl with | [_], _ => rfl
theorem bd_is_name : BindOk (topDef P 16).params (d_is_name.N.take d_is_name.np) d_is_name.dfl.length := by
  intro _ _ _ _ _ _ _ _ _ _ us hl
  exact match us, hl with | [_], _ => rfl
theorem bd_common_divisor : BindOk (topDef P 17).params (d_common_divisor.N.take d_common_divisor.np) d_common_divisor.dfl.length := by
  intro _ _ _ _ _ _ _ _ _ _ us hl
  exact match us, hl with | [_, _], _ => rfl
theorem bd_is_number : BindOk (topDef P 18).params (d_is_number.N.take d_is_number.np) d_is_number.dfl.length := by
  intro _ _ _ _ _ _ _ _ _ _ us hl
  exact match us, hl with | [_], _ => rfl
theorem bd_reduced : BindOk (topDef P 19).params (d_reduced.N.take d_reduced.np) d_reduced.dfl.length := by
  intro _ _ _ _ _ _ _ _ _ _ us hl
  exact match us, hl with | [_, _], _ => rfl
theorem bd_require_count : BindOk (topDef P 20).params (d_require_count.N.take d_require_count.np) d_require_count.dfl.length := by
  unfold BindOk
  rw [if_neg (by decide)]
  intro m h1 h2 _ _ _ _ _ _ _ _ _ _ _ us its l1 l2
  subst l1
  have h1' : us.length ≤ 3 := h1
  have h2' : 3 ≤ us.length + 2 := h2
  have l2' : its.length = 2 := l2
  match us, its, h1', h2', l2' with
  | [_], [_, _], _, _, _ => exact ⟨_, rfl, rfl⟩
  | [_, _], [_, _], _, _, _ => exact ⟨_, rfl, rfl⟩
  | [_, _, _], [_, _], _, _, _ => exact ⟨_, rfl, rfl⟩
theorem bd_added : BindOk (topDef P 21).params (d_added.N.take d_added.np) d_added.dfl.length := by
  intro _ _ _ _ _ _ _ _ _ _ us hl
  exact match us, hl with | [_, _], _ => rfl
theorem bd_multiplied : BindOk (topDef P 22).params (d_multiplied.N.take d_multiplied.np) d_multiplied.dfl.length := by
  intro _ _ _ _ _ _ _ _ _ _ us hl
  exact match us, hl with | [_, _], _ => rfl
theorem bd_opposite : BindOk (topDef P 23).params (d_opposite.N.take d_opposite.np) d_opposite.dfl.length := by
  intro _ _ _ _ _ _ _ _ _ _ us hl
  exact match us, hl with | [_], _ => rfl
theorem bd_divided : BindOk (topDef P 24).params (d_divided.N.take d_divided.np) d_divided.dfl.length := by
  intro _ _ _ _ _ _ _ _ _ _ us hl
  exact match us, hl with | [_, _], _ => rfl
theorem bd_is_plain_row : BindOk (topDef P 26).params (d_is_plain_row.N.take d_is_plain_row.np) d_is_plain_row.dfl.length := by
  intro _ _ _ _ _ _ _ _ _ _ us hl
  exact match us, hl with | [_, _], _ => rfl
theorem bd_is_plain_table : BindOk (topDef P 27).params (d_is_plain_table.N.take d_is_plain_table.np) d_is_plain_table.dfl.length := by
  intro _ _ _ _ _ _ _ _ _ _ us hl
  exact match us, hl with | [_, _, _], _ => rfl
theorem bd_first_index : BindOk (topDef P 28).params (d_first_index.N.take d_first_index.np) d_first_index.dfl.length := by
  intro _ _ _ _ _ _ _ _ _ _ us hl
  exact match us, hl with | [_], _ => rfl
theorem bd_rest_row : BindOk (topDef P 29).params (d_rest_row.N.take d_rest_row.np) d_rest_row.dfl.length := by
  intro _ _ _ _ _ _ _ _ _ _ us hl
  exact match us, hl with | [_], _ => rfl
theorem bd_unit_row : BindOk (topDef P 30).params (d_unit_row.N.take d_unit_row.np) d_unit_row.dfl.length := by
  intro _ _ _ _ _ _ _ _ _ _ us hl
  exact match us, hl with | [_, _], _ => rfl
theorem bd_unit_table : BindOk (topDef P 31).params (d_unit_table.N.take d_unit_table.np) d_unit_table.dfl.length := by
  intro _ _ _ _ _ _ _ _ _ _ us hl
  exact match us, hl with | [_], _ => rfl
theorem bd_is_rest : BindOk (topDef P 32).params (d_is_rest.N.take d_is_rest.np) d_is_rest.dfl.length := by
  intro _ _ _ _ _ _ _ _ _ _ us hl
  exact match us, hl with | [_], _ => rfl
theorem bd_sum_of_rows : BindOk (topDef P 33).params (d_sum_of_rows.N.take d_sum_of_rows.np) d_sum_of_rows.dfl.length := by
  intro _ _ _ _ _ _ _ _ _ _ us hl
  exact match us, hl with | [_, _], _ => rfl
theorem bd_times_row : BindOk (topDef P 34).params (d_times_row.N.take d_times_row.np) d_times_row.dfl.length := by
  intro _ _ _ _ _ _ _ _ _ _ us hl
  exact match us, hl with | [_, _], _ => rfl
theorem bd_less_times : BindOk (topDef P 35).params (d_less_times.N.take d_less_times.np) d_less_times.dfl.length := by
  intro _ _ _ _ _ _ _ _ _ _ us hl
  exact match us, hl with | [_, _, _], _ => rfl
theorem bd_led_told : BindOk (topDef P 36).params (d_led_told.N.take d_led_told.np) d_led_told.dfl.length := by
  intro _ _ _ _ _ _ _ _ _ _ us hl
  exact match us, hl with | [_, _, _], _ => rfl
theorem bd_columns_of : BindOk (topDef P 37).params (d_columns_of.N.take d_columns_of.np) d_columns_of.dfl.length := by
  intro _ _ _ _ _ _ _ _ _ _ us hl
  exact match us, hl with | [_, _], _ => rfl
theorem bd_rest_by : BindOk (topDef P 38).params (d_rest_by.N.take d_rest_by.np) d_rest_by.dfl.length := by
  intro _ _ _ _ _ _ _ _ _ _ us hl
  exact match us, hl with | [_, _], _ => rfl
theorem bd_with_row : BindOk (topDef P 39).params (d_with_row.N.take d_with_row.np) d_with_row.dfl.length := by
  intro _ _ _ _ _ _ _ _ _ _ us hl
  exact match us, hl with | [_, _], _ => rfl
theorem bd_spanned : BindOk (topDef P 40).params (d_spanned.N.take d_spanned.np) d_spanned.dfl.length := by
  intro _ _ _ _ _ _ _ _ _ _ us hl
  exact match us, hl with | [_], _ => rfl
theorem bd_does_hold : BindOk (topDef P 41).params (d_does_hold.N.take d_does_hold.np) d_does_hold.dfl.length := by
  intro _ _ _ _ _ _ _ _ _ _ us hl
  exact match us, hl with | [_, _], _ => rfl
theorem bd_apart_from : BindOk (topDef P 42).params (d_apart_from.N.take d_apart_from.np) d_apart_from.dfl.length := by
  intro _ _ _ _ _ _ _ _ _ _ us hl
  exact match us, hl with | [_, _], _ => rfl
theorem bd_met_of : BindOk (topDef P 43).params (d_met_of.N.take d_met_of.np) d_met_of.dfl.length := by
  intro _ _ _ _ _ _ _ _ _ _ us hl
  exact match us, hl with | [_, _, _], _ => rfl
theorem bd_are_names : BindOk (topDef P 51).params (d_are_names.N.take d_are_names.np) d_are_names.dfl.length := by
  intro _ _ _ _ _ _ _ _ _ _ us hl
  exact match us, hl with | [_, _, _], _ => rfl
theorem bd_least_key : BindOk (topDef P 52).params (d_least_key.N.take d_least_key.np) d_least_key.dfl.length := by
  intro _ _ _ _ _ _ _ _ _ _ us hl
  exact match us, hl with | [_], _ => rfl
theorem bd_names_fault : BindOk (topDef P 53).params (d_names_fault.N.take d_names_fault.np) d_names_fault.dfl.length := by
  intro _ _ _ _ _ _ _ _ _ _ us hl
  exact match us, hl with | [_, _], _ => rfl
theorem bd_rules_fault : BindOk (topDef P 54).params (d_rules_fault.N.take d_rules_fault.np) d_rules_fault.dfl.length := by
  intro _ _ _ _ _ _ _ _ _ _ us hl
  exact match us, hl with | [_, _, _], _ => rfl
theorem bd_are_some : BindOk (topDef P 55).params (d_are_some.N.take d_are_some.np) d_are_some.dfl.length := by
  intro _ _ _ _ _ _ _ _ _ _ us hl
  exact match us, hl with | [_, _], _ => rfl
theorem bd_chart_fault : BindOk (topDef P 56).params (d_chart_fault.N.take d_chart_fault.np) d_chart_fault.dfl.length := by
  intro _ _ _ _ _ _ _ _ _ _ us hl
  exact match us, hl with | [_, _], _ => rfl
theorem bd_gauges_fault : BindOk (topDef P 57).params (d_gauges_fault.N.take d_gauges_fault.np) d_gauges_fault.dfl.length := by
  intro _ _ _ _ _ _ _ _ _ _ us hl
  exact match us, hl with | [_, _], _ => rfl
theorem bd_plant_fault : BindOk (topDef P 58).params (d_plant_fault.N.take d_plant_fault.np) d_plant_fault.dfl.length := by
  intro _ _ _ _ _ _ _ _ _ _ us hl
  exact match us, hl with | [_, _, _, _, _], _ => rfl
theorem bd_require_plant : BindOk (topDef P 60).params (d_require_plant.N.take d_require_plant.np) d_require_plant.dfl.length := by
  intro _ _ _ _ _ _ _ _ _ _ us hl
  exact match us, hl with | [_], _ => rfl
theorem bd_require_sight : BindOk (topDef P 61).params (d_require_sight.N.take d_require_sight.np) d_require_sight.dfl.length := by
  intro _ _ _ _ _ _ _ _ _ _ us hl
  exact match us, hl with | [_], _ => rfl
theorem bd_require_both : BindOk (topDef P 62).params (d_require_both.N.take d_require_both.np) d_require_both.dfl.length := by
  intro _ _ _ _ _ _ _ _ _ _ us hl
  exact match us, hl with | [_, _], _ => rfl
theorem bd_require_rule : BindOk (topDef P 63).params (d_require_rule.N.take d_require_rule.np) d_require_rule.dfl.length := by
  intro _ _ _ _ _ _ _ _ _ _ us hl
  exact match us, hl with | [_, _], _ => rfl
theorem bd_require_standing : BindOk (topDef P 64).params (d_require_standing.N.take d_require_standing.np) d_require_standing.dfl.length := by
  intro _ _ _ _ _ _ _ _ _ _ us hl
  exact match us, hl with | [_, _], _ => rfl
theorem bd_every_lot : BindOk (topDef P 66).params (d_every_lot.N.take d_every_lot.np) d_every_lot.dfl.length := by
  intro _ _ _ _ _ _ _ _ _ _ us hl
  exact match us, hl with | [_], _ => rfl
theorem bd_with_lot : BindOk (topDef P 67).params (d_with_lot.N.take d_with_lot.np) d_with_lot.dfl.length := by
  intro _ _ _ _ _ _ _ _ _ _ us hl
  exact match us, hl with | [_, _], _ => rfl
theorem bd_met_all : BindOk (topDef P 68).params (d_met_all.N.take d_met_all.np) d_met_all.dfl.length := by
  intro _ _ _ _ _ _ _ _ _ _ us hl
  exact match us, hl with | [_, _], _ => rfl
theorem bd_pairs_at : BindOk (topDef P 69).params (d_pairs_at.N.take d_pairs_at.np) d_pairs_at.dfl.length := by
  intro _ _ _ _ _ _ _ _ _ _ us hl
  exact match us, hl with | [_, _, _, _], _ => rfl
theorem bd_wholes_of : BindOk (topDef P 70).params (d_wholes_of.N.take d_wholes_of.np) d_wholes_of.dfl.length := by
  intro _ _ _ _ _ _ _ _ _ _ us hl
  exact match us, hl with | [_, _], _ => rfl
theorem bd_lot_into : BindOk (topDef P 71).params (d_lot_into.N.take d_lot_into.np) d_lot_into.dfl.length := by
  intro _ _ _ _ _ _ _ _ _ _ us hl
  exact match us, hl with | [_, _], _ => rfl
theorem bd_back_of : BindOk (topDef P 72).params (d_back_of.N.take d_back_of.np) d_back_of.dfl.length := by
  intro _ _ _ _ _ _ _ _ _ _ us hl
  exact match us, hl with | [_, _, _], _ => rfl
theorem bd_starts_of : BindOk (topDef P 73).params (d_starts_of.N.take d_starts_of.np) d_starts_of.dfl.length := by
  intro _ _ _ _ _ _ _ _ _ _ us hl
  exact match us, hl with | [_, _, _], _ => rfl
theorem bd_home_list : BindOk (topDef P 75).params (d_home_list.N.take d_home_list.np) d_home_list.dfl.length := by
  intro _ _ _ _ _ _ _ _ _ _ us hl
  exact match us, hl with | [_, _], _ => rfl
theorem bd_spread_at : BindOk (topDef P 76).params (d_spread_at.N.take d_spread_at.np) d_spread_at.dfl.length := by
  intro _ _ _ _ _ _ _ _ _ _ us hl
  exact match us, hl with | [_, _], _ => rfl
theorem bd_last_of : BindOk (topDef P 77).params (d_last_of.N.take d_last_of.np) d_last_of.dfl.length := by
  intro _ _ _ _ _ _ _ _ _ _ us hl
  exact match us, hl with | [_, _], _ => rfl
theorem bd_lots_of_starts : BindOk (topDef P 78).params (d_lots_of_starts.N.take d_lots_of_starts.np) d_lots_of_starts.dfl.length := by
  intro _ _ _ _ _ _ _ _ _ _ us hl
  exact match us, hl with | [_, _, _], _ => rfl
theorem bd_home_spread : BindOk (topDef P 79).params (d_home_spread.N.take d_home_spread.np) d_home_spread.dfl.length := by
  intro _ _ _ _ _ _ _ _ _ _ us hl
  exact match us, hl with | [_, _, _], _ => rfl
theorem bd_last_spread : BindOk (topDef P 80).params (d_last_spread.N.take d_last_spread.np) d_last_spread.dfl.length := by
  intro _ _ _ _ _ _ _ _ _ _ us hl
  exact match us, hl with | [_, _], _ => rfl
theorem bd_steady_number : BindOk (topDef P 81).params (d_steady_number.N.take d_steady_number.np) d_steady_number.dfl.length := by
  intro _ _ _ _ _ _ _ _ _ _ us hl
  exact match us, hl with | [_, _], _ => rfl
theorem bd_home_lot_by : BindOk (topDef P 82).params (d_home_lot_by.N.take d_home_lot_by.np) d_home_lot_by.dfl.length := by
  intro _ _ _ _ _ _ _ _ _ _ us hl
  exact match us, hl with | [_, _, _], _ => rfl
theorem bd_home_lot : BindOk (topDef P 83).params (d_home_lot.N.take d_home_lot.np) d_home_lot.dfl.length := by
  intro _ _ _ _ _ _ _ _ _ _ us hl
  exact match us, hl with | [_, _], _ => rfl
theorem bd_least_holding : BindOk (topDef P 84).params (d_least_holding.N.take d_least_holding.np) d_least_holding.dfl.length := by
  intro _ _ _ _ _ _ _ _ _ _ us hl
  exact match us, hl with | [_, _], _ => rfl
theorem bd_require_start : BindOk (topDef P 85).params (d_require_start.N.take d_require_start.np) d_require_start.dfl.length := by
  intro _ _ _ _ _ _ _ _ _ _ us hl
  exact match us, hl with | [_, _, _], _ => rfl
theorem bd_is_home : BindOk (topDef P 86).params (d_is_home.N.take d_is_home.np) d_is_home.dfl.length := by
  intro _ _ _ _ _ _ _ _ _ _ us hl
  exact match us, hl with | [_, _, _], _ => rfl
theorem bd_home_ticks : BindOk (topDef P 87).params (d_home_ticks.N.take d_home_ticks.np) d_home_ticks.dfl.length := by
  intro _ _ _ _ _ _ _ _ _ _ us hl
  exact match us, hl with | [_, _, _], _ => rfl
theorem bd_are_all : BindOk (topDef P 88).params (d_are_all.N.take d_are_all.np) d_are_all.dfl.length := by
  intro _ _ _ _ _ _ _ _ _ _ us hl
  exact match us, hl with | [_, _], _ => rfl
theorem bd_is_all_home : BindOk (topDef P 89).params (d_is_all_home.N.take d_is_all_home.np) d_is_all_home.dfl.length := by
  intro _ _ _ _ _ _ _ _ _ _ us hl
  exact match us, hl with | [_, _], _ => rfl
theorem bd_steady_ticks : BindOk (topDef P 90).params (d_steady_ticks.N.take d_steady_ticks.np) d_steady_ticks.dfl.length := by
  intro _ _ _ _ _ _ _ _ _ _ us hl
  exact match us, hl with | [_, _], _ => rfl
theorem bd_home_number : BindOk (topDef P 91).params (d_home_number.N.take d_home_number.np) d_home_number.dfl.length := by
  intro _ _ _ _ _ _ _ _ _ _ us hl
  exact match us, hl with | [_, _, _, _], _ => rfl
theorem bd_law_dice : BindOk (topDef P 93).params (d_law_dice.N.take d_law_dice.np) d_law_dice.dfl.length := by
  intro _ _ _ _ _ _ _ _ _ _ us hl
  exact match us, hl with | [_, _], _ => rfl
theorem bd_law_roll : BindOk (topDef P 94).params (d_law_roll.N.take d_law_roll.np) d_law_roll.dfl.length := by
  intro _ _ _ _ _ _ _ _ _ _ us hl
  exact match us, hl with | [_, _], _ => rfl
theorem bd_law_pick : BindOk (topDef P 95).params (d_law_pick.N.take d_law_pick.np) d_law_pick.dfl.length := by
  intro _ _ _ _ _ _ _ _ _ _ us hl
  exact match us, hl with | [_, _], _ => rfl
theorem bd_law_word : BindOk (topDef P 96).params (d_law_word.N.take d_law_word.np) d_law_word.dfl.length := by
  intro _ _ _ _ _ _ _ _ _ _ us hl
  exact match us, hl with | [_], _ => rfl
theorem bd_law_right : BindOk (topDef P 97).params (d_law_right.N.take d_law_right.np) d_law_right.dfl.length := by
  intro _ _ _ _ _ _ _ _ _ _ us hl
  exact match us, hl with | [_, _], _ => rfl
theorem bd_law : BindOk (topDef P 98).params (d_law.N.take d_law.np) d_law.dfl.length := by
  intro _ _ _ _ _ _ _ _ _ _ us hl
  exact match us, hl with | [_], _ => rfl
theorem bm_Plant : BindOk (initDef P 59).params (m_Plant.N.take m_Plant.np) 0 := by
  intro _ _ _ _ _ _ _ _ _ _ us hl
  exact match us, hl with | [_, _, _, _, _, _], _ => rfl
theorem bindsM : AllBindM P ms := ⟨bm_Plant, trivial⟩
theorem ic_ok : ∀ (c : Nat) (q : Str × List Str × Nat), T.ic[c]? = some q → ∃ r : Row, ms[c]? = some r ∧ T.tb q.2.2 = some r.d := by
  intro c q h
  cases c with
  | zero => cases h; exact ⟨_, rfl, rfl⟩
  | succ c =>
  simp [T] at h
theorem binds : AllBind P rows := ⟨bd_is_integer, bd_is_name, bd_common_divisor, bd_is_number, bd_reduced, bd_require_count, bd_added, bd_multiplied, bd_opposite, bd_divided, bd_is_plain_row, bd_is_plain_table, bd_first_index, bd_rest_row, bd_unit_row, bd_unit_table, bd_is_rest, bd_sum_of_rows, bd_times_row, bd_less_times, bd_led_told, bd_columns_of, bd_rest_by, bd_with_row, bd_spanned, bd_does_hold, bd_apart_from, bd_met_of, bd_are_names, bd_least_key, bd_names_fault, bd_rules_fault, bd_are_some, bd_chart_fault, bd_gauges_fault, bd_plant_fault, bd_require_plant, bd_require_sight, bd_require_both, bd_require_rule, bd_require_standing, bd_every_lot, bd_with_lot, bd_met_all, bd_pairs_at, bd_wholes_of, bd_lot_into, bd_back_of, bd_starts_of, bd_home_list, bd_spread_at, bd_last_of, bd_lots_of_starts, bd_home_spread, bd_last_spread, bd_steady_number, bd_home_lot_by, bd_home_lot, bd_least_holding, bd_require_start, bd_is_home, bd_home_ticks, bd_are_all, bd_is_all_home, bd_steady_ticks, bd_home_number, bd_law_dice, bd_law_roll, bd_law_pick, bd_law_word, bd_law_right, bd_law, trivial⟩
end
def loose0 : List Str := ["_wall", "RuleError", "InvalidRow", "InvalidPlant", "InvalidOperation", "UnknownName", "InvalidCount", "NOUGHT", "ONE", "MAX_LETTERS", "MAX_COUNT", "LETTERS"]
def loose1 : List Str := ["SIGNS", "is_integer", "is_name", "common_divisor", "is_number", "reduced", "require_count", "added", "multiplied", "opposite", "divided", "is_plain_row"]
def loose2 : List Str := ["is_plain_table", "first_index", "rest_row", "unit_row", "unit_table", "is_rest", "sum_of_rows", "times_row", "less_times", "led_told", "columns_of", "rest_by"]
def loose3 : List Str := ["with_row", "spanned", "does_hold", "apart_from", "met_of", "MAX_PLACES", "MAX_HANDS", "MAX_RULES", "MAX_GAUGES", "AHEAD", "BEHIND", "are_names"]
def loose4 : List Str := ["least_key", "names_fault", "rules_fault", "are_some", "chart_fault", "gauges_fault", "plant_fault", "Plant", "require_plant", "require_sight", "require_both", "require_rule"]
def loose5 : List Str := ["require_standing", "every_lot", "with_lot", "met_all", "pairs_at", "wholes_of", "lot_into", "back_of", "starts_of", "home_list", "spread_at", "last_of"]
def loose6 : List Str := ["lots_of_starts", "home_spread", "last_spread", "steady_number", "home_lot_by", "home_lot", "least_holding", "require_start", "is_home", "home_ticks", "are_all", "is_all_home"]
def loose7 : List Str := ["steady_ticks", "home_number", "_law_dice", "_law_roll", "_law_pick", "_law_word", "_law_right"]
def loose : List Str := loose0 ++ (loose1 ++ (loose2 ++ (loose3 ++ (loose4 ++ (loose5 ++ (loose6 ++ (loose7)))))))
/- law: top 98, row 71, defs 72 -/
end K41

namespace K41
open PySem Mp
theorem rows_ok : rows.all (rowC P T) = true := by decide +kernel
theorem ms_ok : ms.all (mC P T) = true := by decide +kernel
abbrev R : PySem.W.OpenRow := PySem.W.OpenLaw.row PySem.Challenge.rw_anyrules_k41_errors_of_home
abbrev hk : PySem.W.Hook := hookM 6 (facts P T rows) (fnsOf P T rows ms) (lmOf P rows) (exB P T rows)
def ob (s : PySem.W.SharedT) : He.AlX × Bool := (obsN 6 (facts P T rows) (fnsOf P T rows ms) (lmOf P rows) (exB P T rows) (HandSHeadRun.getT s), ntB (HandSHeadRun.getT s))
theorem ob_eq (s : PySem.W.SharedT) : ob s = hk.obs s.abs := obsM_eq (HandSHeadRun.getT_eq s)
theorem run (w : World) : HandSHeadRun.RunEq R (PySem.W.view R.prog [98]) hk ob 6000 loose w := by
  intro os
  kernel_rfl
end K41

namespace K41
open PySem Mp
def ns : List Nat := [6, 5, 6, 6, 6]
theorem hR : tb 67 = some (dRoll "total") := rfl
theorem hP : tb 68 = some (dPick "things" 67) := rfl
theorem hD : tb 66 = some dDice := rfl
theorem hab : isAbs tb = false := by decide +kernel
theorem hdf : ∀ g d, tb g = some d → PV.nodL d.dfl = true := dfl_nod (by decide +kernel)
def pre : List CS := b_law.take 3
def tail : List CS := b_law.drop 4
def pr : Sg := [(.pv (.tup [(.int (1)), (.int (1))])), (.pv (.tup [(.int (0)), (.int (1))])), (.pv (.dct [(.str (Str.ofString "a")), (.str (Str.ofString "b"))] [(.tup [(.tup [(.tup [(.int (1)), (.int (1))]), (.tup [(.int (1)), (.int (1))])])]), (.tup [(.tup [(.tup [(.int (1)), (.int (1))]), (.tup [(.int (-1)), (.int (1))])])])])), (.own true (.ins 0 [(.tup [(.str (Str.ofString "x"))]), (.tup [(.str (Str.ofString "u"))]), (.tup [(.str (Str.ofString "a")), (.str (Str.ofString "b"))]), (.dct [(.str (Str.ofString "a")), (.str (Str.ofString "b"))] [(.tup [(.tup [(.tup [(.int (1)), (.int (1))]), (.tup [(.int (1)), (.int (1))])])]), (.tup [(.tup [(.tup [(.int (1)), (.int (1))]), (.tup [(.int (-1)), (.int (1))])])])]), (.tup [(.str (Str.ofString "a")), (.str (Str.ofString "b"))]), (.dct [(.str (Str.ofString "a")), (.str (Str.ofString "b"))] [(.tup [(.str (Str.ofString "a")), (.str (Str.ofString "b"))]), (.tup [(.str (Str.ofString "a")), (.str (Str.ofString "b"))])]), (.dct [] []), (.int (1)), (.int (2)), (.dct [(.str (Str.ofString "a")), (.str (Str.ofString "b"))] [(.tup [(.tup [(.tup [(.int (1)), (.int (1))])])]), (.tup [(.tup [(.tup [(.int (1)), (.int (1))])])])]), (.dct [(.str (Str.ofString "a")), (.str (Str.ofString "b"))] [(.tup [(.tup [(.tup [(.int (1)), (.int (1))])])]), (.tup [(.tup [(.tup [(.int (-1)), (.int (1))])])])])]))]
def ps : Sg := [(.pv (.tup [(.int (1)), (.int (1))])), (.pv (.tup [(.int (0)), (.int (1))])), (.pv (.dct [(.str (Str.ofString "a")), (.str (Str.ofString "b"))] [(.tup [(.tup [(.tup [(.int (1)), (.int (1))]), (.tup [(.int (1)), (.int (1))])])]), (.tup [(.tup [(.tup [(.int (1)), (.int (1))]), (.tup [(.int (-1)), (.int (1))])])])])), (.pv (.ins 0 [(.tup [(.str (Str.ofString "x"))]), (.tup [(.str (Str.ofString "u"))]), (.tup [(.str (Str.ofString "a")), (.str (Str.ofString "b"))]), (.dct [(.str (Str.ofString "a")), (.str (Str.ofString "b"))] [(.tup [(.tup [(.tup [(.int (1)), (.int (1))]), (.tup [(.int (1)), (.int (1))])])]), (.tup [(.tup [(.tup [(.int (1)), (.int (1))]), (.tup [(.int (-1)), (.int (1))])])])]), (.tup [(.str (Str.ofString "a")), (.str (Str.ofString "b"))]), (.dct [(.str (Str.ofString "a")), (.str (Str.ofString "b"))] [(.tup [(.str (Str.ofString "a")), (.str (Str.ofString "b"))]), (.tup [(.str (Str.ofString "a")), (.str (Str.ofString "b"))])]), (.dct [] []), (.int (1)), (.int (2)), (.dct [(.str (Str.ofString "a")), (.str (Str.ofString "b"))] [(.tup [(.tup [(.tup [(.int (1)), (.int (1))])])]), (.tup [(.tup [(.tup [(.int (1)), (.int (1))])])])]), (.dct [(.str (Str.ofString "a")), (.str (Str.ofString "b"))] [(.tup [(.tup [(.tup [(.int (1)), (.int (1))])])]), (.tup [(.tup [(.tup [(.int (-1)), (.int (1))])])])])]))]
def vs : List PV := [(.ins 0 [(.tup [(.str (Str.ofString "x"))]), (.tup [(.str (Str.ofString "u"))]), (.tup [(.str (Str.ofString "a")), (.str (Str.ofString "b"))]), (.dct [(.str (Str.ofString "a")), (.str (Str.ofString "b"))] [(.tup [(.tup [(.tup [(.int (1)), (.int (1))]), (.tup [(.int (1)), (.int (1))])])]), (.tup [(.tup [(.tup [(.int (1)), (.int (1))]), (.tup [(.int (-1)), (.int (1))])])])]), (.tup [(.str (Str.ofString "a")), (.str (Str.ofString "b"))]), (.dct [(.str (Str.ofString "a")), (.str (Str.ofString "b"))] [(.tup [(.str (Str.ofString "a")), (.str (Str.ofString "b"))]), (.tup [(.str (Str.ofString "a")), (.str (Str.ofString "b"))])]), (.dct [] []), (.int (1)), (.int (2)), (.dct [(.str (Str.ofString "a")), (.str (Str.ofString "b"))] [(.tup [(.tup [(.tup [(.int (1)), (.int (1))])])]), (.tup [(.tup [(.tup [(.int (1)), (.int (1))])])])]), (.dct [(.str (Str.ofString "a")), (.str (Str.ofString "b"))] [(.tup [(.tup [(.tup [(.int (1)), (.int (1))])])]), (.tup [(.tup [(.tup [(.int (-1)), (.int (1))])])])])])]
theorem pre_is : isSg (preA tb 68 39 pre 4 5) pr = true := by decide +kernel
theorem good : goodA tb 68 ns 39 70 (.own false (.dic 0) :: vs.map Slot.pv) = some 5 := by decide +kernel
theorem turn : Turn2 tb 39 70 5 vs := turnG2 hR hP (by decide) hab hdf (by decide +kernel) good (by decide) (by decide +kernel)
theorem tail_is : tailA2 tb 68 39 ps tail 2 = true := by decide +kernel
theorem law_ok (ns : List Int) : ∃ s, runF tb 40 71 [.pv (.frz (ns.map PV.int))] = .ok (.val (.bl true)) s :=
  lawG2 (gP := 68) (N := 38) (k := 2) (q := 4) (is := [4]) (vs := vs) (pr := pr) (ps := ps) (pre := pre) (tail := tail) (by decide) hab hdf hD tb_law_right rfl rfl rfl turn 5 4 (by decide) (by decide) (by decide) (by decide) (by decide) tb_law rfl rfl rfl (isSg_eq pre_is) rfl rfl (by decide +kernel) tail_is ns
end K41
open PySem PySem.W PySem.Calls PyProof.Rows
theorem PySem.Challenge.cw_anyrules_k41_errors_of_home_holds : PySem.Challenge.rw_anyrules_k41_errors_of_home.Holds := by
  w_on; o_law
  refine HandSHeadRun.head_any (r := OpenLaw.row PySem.Challenge.rw_anyrules_k41_errors_of_home) (q := view (OpenLaw.row PySem.Challenge.rw_anyrules_k41_errors_of_home).prog [98]) (H := K41.hk) (ob := K41.ob) (M := 6000) (loose := K41.loose) (d := HandSHeadRun.topDef (OpenLaw.row PySem.Challenge.rw_anyrules_k41_errors_of_home).prog 98) (kwd := []) K41.ob_eq
    (by kernel_rfl) (fun s => by kernel_rfl) K41.run (by kernel_rfl) (by kernel_rfl) (by kernel_rfl) (by rfl) (by first | assumption | decide +kernel) (by decide +kernel) ⟨rfl, rfl, rfl, rfl, rfl, by decide +kernel⟩ ?hw ?hc
  case hw => w_witness2
  case hc => exact Mp.law_walk (l := PySem.Challenge.rw_anyrules_k41_errors_of_home) (rs := K41.rows) (ms := K41.ms) (is := K41.inis) (T := K41.T) (gL := 71) (k := 40) (n := 6) rfl ⟨rfl, K41.hab, by decide, K41.ic_ok⟩ K41.rows_ok K41.binds K41.ms_ok K41.bindsM rfl rfl rfl rfl (by decide) rfl ⟨rfl, by decide, by decide⟩ fun ns _ _ => K41.law_ok ns

