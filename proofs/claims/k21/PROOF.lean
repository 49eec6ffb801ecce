import PyProof.Rows.All
import Wide.All
import OpenK.AllK
import Wide.FinOn
import KE.KStateDown
import HandS.ForMost
import HandS.ForExc
import HandS.TupAny
import HandS.TupMul
import HandS.IsInst
import HandS.Deep
import HandS.Flow
import HandS.Wide
import HandS.Style
import HandS.Zip
import HandS.Lambda
import HandS.Defaults
import HandS.Head3
import HandS.HeadHook4
import HandS.EndBits
import HandS.Codes
import PySem.Challenge.RW_anyrules_k21_whole_numbers
set_option Elab.async false
set_option linter.all false
set_option maxRecDepth 100000
set_option maxHeartbeats 0
/-! MpCore: values as trees, core syntax, the interpreter, the check of a text against its core text. -/
namespace Mp
open PySem

/-! ### values -/
inductive PV where
  | non
  | bl (b : Bool)
  | int (i : Int)
  | str (s : Str)
  | tup (xs : List PV)
  | lst (xs : List PV)
  | ty (n : String)
  | fn (g : Nat)
  | frz (xs : List PV)

mutual
def PV.beq : PV → PV → Bool
  | .non, .non => true
  | .bl a, .bl b => a == b
  | .int a, .int b => decide (a = b)
  | .str a, .str b => decide (a.cps.toList = b.cps.toList)
  | .tup a, .tup b => PV.beqL a b
  | .lst a, .lst b => PV.beqL a b
  | .ty a, .ty b => decide (a = b)
  | .fn a, .fn b => decide (a = b)
  | _, _ => false
def PV.beqL : List PV → List PV → Bool
  | [], [] => true
  | x :: xs, y :: ys => x.beq y && PV.beqL xs ys
  | _, _ => false
end

/-! plain data -/
mutual
def PV.toD : PV → PyData
  | .non => .none
  | .bl b => .bool b
  | .int i => .int i
  | .str s => .str s
  | .tup xs => .tuple (PV.toDs xs)
  | .lst xs => .list (PV.toDs xs)
  | .ty _ => .none
  | .fn _ => .none
  | .frz _ => .none
def PV.toDs : List PV → List PyData
  | [] => []
  | x :: xs => x.toD :: PV.toDs xs
end
/-! plain data, its depth -/
mutual
def PV.isd : PV → Bool
  | .non => true
  | .bl _ => true
  | .int _ => true
  | .str s => s.cps.toList.all fun c => decide (c < 1114112)
  | .tup xs => PV.isdL xs
  | .lst xs => PV.isdL xs
  | .ty _ => false
  | .fn _ => false
  | .frz _ => false
def PV.isdL : List PV → Bool
  | [] => true
  | x :: xs => x.isd && PV.isdL xs
end
mutual
def PV.dep : PV → Nat
  | .non => 0
  | .bl _ => 0
  | .int _ => 0
  | .str _ => 0
  | .tup xs => PV.depL xs + 1
  | .lst xs => PV.depL xs + 1
  | .ty _ => 0
  | .fn _ => 0
  | .frz _ => 0
def PV.depL : List PV → Nat
  | [] => 0
  | x :: xs => max x.dep (PV.depL xs)
end
def PV.dat (n : Nat) (x : PV) : Bool := x.isd && decide (x.dep ≤ n)
def PV.datL (n : Nat) (xs : List PV) : Bool := PV.isdL xs && decide (PV.depL xs ≤ n)
mutual
def PV.eqv : PV → PV → Bool
  | .non, .non => true
  | .bl a, .bl b => a == b
  | .bl a, .int j => decide ((if a then 1 else 0) = j)
  | .int i, .bl b => decide (i = (if b then 1 else 0))
  | .int i, .int j => decide (i = j)
  | .str x, .str y => decide (x.cps.toList = y.cps.toList)
  | .lst xs, .lst ys => PV.eqvL xs ys
  | .tup xs, .tup ys => PV.eqvL xs ys
  | _, _ => false
def PV.eqvL : List PV → List PV → Bool
  | [], [] => true
  | x :: xs, y :: ys => x.eqv y && PV.eqvL xs ys
  | _, _ => false
end

/-! ### core syntax -/
/-- what a loop walks -/
inductive IK where
  | val | rng | rng2 | zip | enu
  deriving DecidableEq
/-- built-ins -/
inductive Bi where
  | len | abs | int | max | min | tuple | list | all | any | repr | sum | isi
  deriving DecidableEq
inductive Tg where
  | nm (i : Nat)
  | tp (ts : List Tg)
inductive CE where
  | var (i : Nat)
  | bor (i : Nat)
  | cst (v : PV)
  | bin (op : Operator) (a b : CE)
  | neg (a : CE)
  | not (a : CE)
  | and (a b : CE)
  | or (a b : CE)
  | andT (a b : CE)
  | orT (a b : CE)
  | notT (a : CE)
  | tru (a : CE)
  | cmp (op : CmpOp) (a b : CE)
  | chn (o p : CmpOp) (a b c : CE)
  | ife (t a b : CE)
  | tup (es : List CE)
  | lst (es : List CE)
  | sub (a b : CE)
  | slc (a : CE) (lo hi : Option CE)
  | cal (g : Nat) (es : List CE)
  | bui (b : Bi) (es : List CE)
  | rev (a : CE)
  | ded
  | lc (own : List Nat) (tg : Tg) (k : IK) (src : List CE) (ifs : List CE) (e : CE)
inductive CS where
  | asg (t : Tg) (e : CE)
  | par (is : List Nat) (es : List CE)
  | aug (i : Nat) (op : Operator) (e : CE)
  | set (i : Nat) (ix : CE) (e : CE)
  | app (i : Nat) (e : CE)
  | exp (e : CE)
  | ret (e : CE)
  | retN
  | ite (t : CE) (a b : List CS)
  | whl (t : CE) (b : List CS)
  | fro (tg : Tg) (k : IK) (src : List CE) (b : List CS)
  | brk | cnt | pas | ded

/-! ### states and results -/
inductive Slot where
  | un
  | pv (x : PV)
  | own (new : Bool) (x : PV)
abbrev Sg := List Slot
inductive RV where
  | val (x : PV)
  | frs (x : PV)
  | bor (i : Nat)
def RV.bl? : RV → Option Bool
  | .val (.bl b) => some b
  | _ => none
def RV.int? : RV → Option Int
  | .val (.int i) => some i
  | _ => none
def RV.val? : RV → Option PV
  | .val x => some x
  | _ => none
/-- an exception: the class's number, what it keeps -/
structure Xc where
  c : Nat
  fs : List (Str × PV)
inductive Rs (α : Type) where
  | ok (a : α) (s : Sg)
  | er (x : Xc) (s : Sg)
  | no
def Rs.bind {α β : Type} (r : Rs α) (f : α → Sg → Rs β) : Rs β := match r with
  | .ok a s => f a s
  | .er x s => .er x s
  | .no => .no
inductive Ss where
  | nx (s : Sg)
  | rt (r : RV) (s : Sg)
  | bk (s : Sg)
  | ct (s : Sg)
  | er (x : Xc) (s : Sg)
  | no

/-! ### operations on values -/
def line : Nat := 16777216
def okMul (i j : Int) : Bool := decide (i.natAbs.log2 + j.natAbs.log2 < 1000000)
def binI (op : Operator) (i j : Int) : Option Int := match op with
  | .Add => some (i + j)
  | .Sub => some (i - j)
  | .Mult => if okMul i j then some (i * j) else none
  | .FloorDiv => if j = 0 then none else if Builtin.divisionGoesByPylong i j then none else some (i.fdiv j)
  | .Mod => if j = 0 then none else some (i.fmod j)
  | .Pow => if 0 ≤ j && decide (((i.natAbs.log2 + 1 : Nat) : Int) * j ≤ 1000000) then some (i ^ j.toNat) else none
  | _ => none
def repL (xs : List PV) (n : Nat) : List PV := (List.replicate n xs).flatten
def binV (op : Operator) (x y : PV) : Option RV := match op, x, y with
  | op, .int i, .int j => (binI op i j).map fun k => .val (.int k)
  | .Add, .str a, .str b => if a.length + b.length ≤ line then some (.val (.str (a ++ b))) else none
  | .Add, .tup a, .tup b => if a.length + b.length ≤ line then some (.val (.tup (a ++ b))) else none
  | .Add, .lst a, .lst b => if a.length + b.length ≤ line then some (.frs (.lst (a ++ b))) else none
  | .Mult, .lst a, .int k => if 0 ≤ k ∧ k ≤ 1000 ∧ a.length ≤ 1000 then some (.frs (.lst (repL a k.toNat))) else none
  | .Mult, .tup a, .int k => if 2 ≤ k ∧ k ≤ 1000 ∧ a.length ≤ 1000 ∧ 0 < a.length then some (.val (.tup (repL a k.toNat))) else none
  | _, _, _ => none
def ixP (n : Nat) (i : Int) : Option Nat := if 0 ≤ i then (if i < n then some i.toNat else none) else if -(n : Int) ≤ i then some (i + n).toNat else none
def atP {α : Type} (xs : List α) (i : Int) : Option α := match ixP xs.length i with
  | some j => xs[j]?
  | none => none
def subV (x y : PV) : Option PV := match x, y with
  | .tup xs, .int i => atP xs i
  | .lst xs, .int i => atP xs i
  | .frz xs, .int i => atP xs i
  | .str s, .int i => if s.length ≤ line then (atP s.cps.toList i).map fun c => .str ⟨#[c]⟩ else none
  | _, _ => none
def cutP {α : Type} (xs : List α) (lo hi : Option Int) : List α := (xs.drop (HT.sIx xs.length 0 lo)).take (HT.sIx xs.length xs.length hi - HT.sIx xs.length 0 lo)
def slcV (x : PV) (lo hi : Option Int) : Option RV := match x with
  | .tup xs => some (.val (.tup (cutP xs lo hi)))
  | .lst xs => some (.frs (.lst (cutP xs lo hi)))
  | _ => none
def truV (x : PV) : Option Bool := match x with
  | .non => some false
  | .bl b => some b
  | .int i => some (i != 0)
  | .str s => if s.length ≤ line then some (s.length != 0) else none
  | .tup xs => some (!xs.isEmpty)
  | .lst xs => some (!xs.isEmpty)
  | _ => none
def flat : PV → Bool
  | .non | .bl _ | .int _ | .str _ => true
  | _ => false
/-- x in xs -/
def memV (x : PV) : List PV → Bool
  | [] => false
  | y :: ys => if y.eqv x then true else memV x ys
def inV (x y : PV) : Option Bool := match y with
  | .tup ys => if x.dat 20 && PV.datL 20 ys then some (memV x ys) else none
  | .lst ys => if x.dat 20 && PV.datL 20 ys then some (memV x ys) else none
  | _ => none
def PV.isN : PV → Bool
  | .non => true
  | _ => false
def strs? : PV → PV → Option (Str × Str)
  | .str a, .str b => some (a, b)
  | _, _ => none
def cmpV (op : CmpOp) (x y : PV) : Option Bool := match op with
  | .Eq => match strs? x y with
    | some (a, b) => some (decide (a = b))
    | none => if x.dat 20 && y.dat 20 then some (x.eqv y) else none
  | .NotEq => match strs? x y with
    | some (a, b) => some (!decide (a = b))
    | none => if x.dat 20 && y.dat 20 then some (!x.eqv y) else none
  | .Is => match y with
    | .non => some x.isN
    | _ => none
  | .IsNot => match y with
    | .non => some (!x.isN)
    | _ => none
  | .In => inV x y
  | .NotIn => (inV x y).map (!·)
  | .Lt => match x, y with
    | .int i, .int j => some (decide (i < j))
    | _, _ => none
  | .LtE => match x, y with
    | .int i, .int j => some (decide (i ≤ j))
    | _, _ => none
  | .Gt => match x, y with
    | .int i, .int j => some (decide (j < i))
    | _, _ => none
  | .GtE => match x, y with
    | .int i, .int j => some (decide (j ≤ i))
    | _, _ => none
def bools : List PV → Option (List Bool)
  | [] => some []
  | .bl b :: r => match bools r with
    | some l => some (b :: l)
    | none => none
  | _ => none
def intsOf : List PV → Option (List Int)
  | [] => some []
  | .int b :: r => match intsOf r with
    | some l => some (b :: l)
    | none => none
  | _ => none
/-- the class of a value, by a built-in class's name -/
def isiV (x : PV) (n : String) : Option Bool :=
  let t := match x with
    | .non => "NoneType"
    | .bl _ => "bool"
    | .int _ => "int"
    | .str _ => "str"
    | .tup _ => "tuple"
    | .lst _ => "list"
    | .ty _ => ""
    | .fn _ => ""
    | .frz _ => ""
  if t = "" then none
  else if n = "int" then some (t = "int" || t = "bool")
  else if n = "bool" || n = "str" || n = "tuple" || n = "list" || n = "dict" then some (decide (t = n)) else none
def biV (b : Bi) (xs : List PV) : Option RV := match b, xs with
  | .len, [.tup l] => some (.val (.int l.length))
  | .len, [.lst l] => some (.val (.int l.length))
  | .len, [.frz l] => some (.val (.int l.length))
  | .len, [.str s] => if s.length ≤ line then some (.val (.int s.length)) else none
  | .abs, [.int i] => some (.val (.int (if i < 0 then -i else i)))
  | .int, [.int i] => some (.val (.int i))
  | .int, [.bl b] => some (.val (.int (if b then 1 else 0)))
  | .max, [.int i, .int j] => some (.val (.int (if j > i then j else i)))
  | .min, [.int i, .int j] => some (.val (.int (if j < i then j else i)))
  | .tuple, [.tup l] => some (.val (.tup l))
  | .tuple, [.lst l] => some (.val (.tup l))
  | .list, [.tup l] => some (.frs (.lst l))
  | .list, [.lst l] => some (.frs (.lst l))
  | .all, [.lst l] => match bools l with
    | some bs => some (.val (.bl (bs.all id)))
    | none => none
  | .any, [.lst l] => match bools l with
    | some bs => some (.val (.bl (bs.any id)))
    | none => none
  | .sum, [.lst l] => match intsOf l with
    | some is => some (.val (.int is.sum))
    | none => none
  | .repr, [x] => if x.dat 20 && x.toD.showable && decide (x.toD.shown.length ≤ line) then some (.val (.str x.toD.shown)) else none
  | .isi, [x, .ty n] => match isiV x n with
    | some b => some (.val (.bl b))
    | none => none
  | _, _ => none
/-- the items that a loop walks -/
def itV (k : IK) (xs : List PV) : Option (List PV) := match k, xs with
  | .val, [.tup l] => some l
  | .val, [.lst l] => some l
  | .rng, [.int j] => if -(2 ^ 62) ≤ j ∧ j < 2 ^ 62 then some ((List.range j.toNat).map fun (i : Nat) => PV.int (0 + i)) else none
  | .rng2, [.int i, .int j] => if -(2 ^ 62) ≤ i ∧ i < 2 ^ 62 ∧ -(2 ^ 62) ≤ j ∧ j < 2 ^ 62 then some ((List.range (j - i).toNat).map fun (k : Nat) => PV.int (i + k)) else none
  | .zip, [.lst a, .lst b] => some (List.zipWith (fun x y => .tup [x, y]) a b)
  | .zip, [.tup a, .tup b] => some (List.zipWith (fun x y => .tup [x, y]) a b)
  | .enu, [.lst a] => some (a.zipIdx.map fun p => .tup [.int p.2, p.1])
  | _, _ => none

/-! ### the interpreter -/
/-- what stands behind a reading now -/
def deref (s : Sg) : RV → Option PV
  | .val x => some x
  | .frs x => some x
  | .bor i => match s[i]? with
    | some (.pv x) => some x
    | some (.own _ x) => some x
    | _ => none
def derefs (s : Sg) : List RV → Option (List PV)
  | [] => some []
  | r :: rs => match deref s r, derefs s rs with
    | some x, some xs => some (x :: xs)
    | _, _ => none
/-- as a part of something else -/
def valOf : RV → Option PV
  | .val x => some x
  | .frs x => some x
  | .bor _ => none
def valsOf : List RV → Option (List PV)
  | [] => some []
  | r :: rs => match valOf r, valsOf rs with
    | some x, some xs => some (x :: xs)
    | _, _ => none
def slotOf : RV → Option Slot
  | .val x => some (.pv x)
  | .frs x => some (.own true x)
  | .bor _ => none
def ret1 (s : Sg) (o : Option RV) : Rs RV := match o with
  | some r => .ok r s
  | none => .no
mutual
def Tg.store : Tg → PV → Sg → Option Sg
  | .nm i, x, s => if i < s.length then some (s.set i (.pv x)) else none
  | .tp ts, .tup xs, s => Tg.storeL ts xs s
  | .tp _, _, _ => none
def Tg.storeL : List Tg → List PV → Sg → Option Sg
  | [], [], s => some s
  | t :: ts, x :: xs, s => match t.store x s with
    | some s1 => Tg.storeL ts xs s1
    | none => none
  | _, _, _ => none
end
mutual
def Tg.slots : Tg → List Nat
  | .nm i => [i]
  | .tp ts => Tg.slotsL ts
def Tg.slotsL : List Tg → List Nat
  | [] => []
  | t :: ts => t.slots ++ Tg.slotsL ts
end
def Tg.asg (t : Tg) (r : RV) (s : Sg) : Option Sg := match t, r with
  | .nm i, .frs x => if i < s.length then some (s.set i (.own true x)) else none
  | t, .val x => t.store x s
  | _, _ => none
/-- the slots i forgotten -/
def wipeP (s : Sg) : List Nat → Sg
  | [] => s
  | v :: vs => (wipeP s vs).set v .un
/-- .. and as they were -/
def backP (old s : Sg) : List Nat → Sg
  | [] => s
  | v :: vs => (backP old s vs).set v (old[v]?.getD .un)
def lcGo (own : List Nat) (tg : Tg) (tst : Sg → Rs Bool) (elt : Sg → Rs RV) : List PV → Nat → List PV → Sg → Rs (List PV)
  | [], _, acc, s => .ok acc.reverse s
  | x :: xs, n, acc, s => match tg.store x (wipeP s own) with
    | none => .no
    | some s1 => match tst s1 with
      | .ok false s2 => lcGo own tg tst elt xs n acc (backP s s2 own)
      | .ok true s2 => match elt s2 with
        | .ok r s3 => match valOf r with
          | some v => if n < line then lcGo own tg tst elt xs (n + 1) (v :: acc) (backP s s3 own) else .no
          | none => .no
        | _ => .no
      | _ => .no
def isBl : PV → Option Bool
  | .bl b => some b
  | _ => none
def asB (r : Rs RV) : Rs Bool := r.bind fun v s => match deref s v with
  | some x => match truV x with
    | some b => .ok b s
    | none => .no
  | none => .no
/-- borrowed slots after a call: the i-th argument's end -/
def giveBack : List RV → Sg → Sg → Sg
  | .bor i :: rs, a :: as, s => giveBack rs as (s.set i a)
  | _ :: rs, _ :: as, s => giveBack rs as s
  | _, _, s => s
def argSlots (s : Sg) (mp : List Nat) : Nat → List RV → Option Sg
  | _, [] => some []
  | k, r :: rs => match argSlots s mp (k + 1) rs with
    | none => none
    | some l => match r with
      | .val x => some (.pv x :: l)
      | .frs x => some (.own false x :: l)
      | .bor i => if mp.contains k then (match s[i]? with
        | some (.own _ x) => some (.own false x :: l)
        | _ => none) else none
def bors : List RV → List Nat
  | [] => []
  | .bor i :: r => i :: bors r
  | _ :: r => bors r
/-- a call: g's number, the slots of its arguments -/
abbrev Cl := Nat → Sg → Rs RV
structure Fd where
  name : Str
  N : List Str
  np : Nat
  dfl : List PV
  mp : List Nat
  body : List CS
def isBor : RV → Bool
  | .bor _ => true
  | _ => false
def callG (cl : Cl) (tb : Nat → Option Fd) (g : Nat) (rs : List RV) (s : Sg) : Rs RV := match tb g with
  | none => .no
  | some d => if rs.length ≤ d.np ∧ d.np ≤ rs.length + d.dfl.length ∧ (bors rs).Nodup then
      match argSlots s d.mp 0 rs with
      | none => .no
      | some as => match cl g (as ++ (d.dfl.drop (rs.length + d.dfl.length - d.np)).map Slot.pv) with
        | .ok r as' => if isBor r then .no else .ok r (giveBack rs as' s)
        | .er x as' => .er x (giveBack rs as' s)
        | .no => .no
    else .no
mutual
def evE (cl : Cl) (tb : Nat → Option Fd) : CE → Sg → Rs RV
  | .var i, s => match s[i]? with
    | some (.pv x) => .ok (.val x) s
    | some (.own _ x) => .ok (.val x) (s.set i (.pv x))
    | _ => .no
  | .bor i, s => match s[i]? with
    | some (.pv x) => .ok (.val x) s
    | some (.own _ _) => .ok (.bor i) s
    | _ => .no
  | .cst v, s => .ok (.val v) s
  | .bin op a b, s => (evE cl tb a s).bind fun x s1 => (evE cl tb b s1).bind fun y s2 => match deref s2 x, deref s2 y with
    | some u, some v => ret1 s2 (binV op u v)
    | _, _ => .no
  | .neg a, s => (evE cl tb a s).bind fun x s1 => match x.int? with
    | some i => .ok (.val (.int (-i))) s1
    | none => .no
  | .not a, s => (asB (evE cl tb a s)).bind fun b s1 => .ok (.val (.bl !b)) s1
  | .and a b, s => (evE cl tb a s).bind fun x s1 => match x.bl? with
    | some true => evE cl tb b s1
    | some false => .ok (.val (.bl false)) s1
    | none => .no
  | .or a b, s => (evE cl tb a s).bind fun x s1 => match x.bl? with
    | some false => evE cl tb b s1
    | some true => .ok (.val (.bl true)) s1
    | none => .no
  | .andT a b, s => (asB (evE cl tb a s)).bind fun c s1 => if c then (asB (evE cl tb b s1)).bind fun d s2 => .ok (.val (.bl d)) s2 else .ok (.val (.bl false)) s1
  | .orT a b, s => (asB (evE cl tb a s)).bind fun c s1 => if c then .ok (.val (.bl true)) s1 else (asB (evE cl tb b s1)).bind fun d s2 => .ok (.val (.bl d)) s2
  | .notT a, s => (asB (evE cl tb a s)).bind fun c s1 => .ok (.val (.bl !c)) s1
  | .tru a, s => evE cl tb a s
  | .cmp op a b, s => (evE cl tb a s).bind fun x s1 => (evE cl tb b s1).bind fun y s2 => match deref s2 x, deref s2 y with
    | some u, some v => match cmpV op u v with
      | some c => .ok (.val (.bl c)) s2
      | none => .no
    | _, _ => .no
  | .chn o p a b c, s => (evE cl tb a s).bind fun x s1 => (evE cl tb b s1).bind fun y s2 => match x.val?, y.val? with
    | some u, some v => match cmpV o u v with
      | some true => (evE cl tb c s2).bind fun z s3 => match z.val? with
        | some w => match cmpV p v w with
          | some d => .ok (.val (.bl d)) s3
          | none => .no
        | none => .no
      | some false => .ok (.val (.bl false)) s2
      | none => .no
    | _, _ => .no
  | .ife t a b, s => (asB (evE cl tb t s)).bind fun c s1 => if c then evE cl tb a s1 else evE cl tb b s1
  | .tup es, s => (evEs cl tb es s).bind fun rs s1 => match valsOf rs with
    | some l => if l.length ≤ line then .ok (.val (.tup l)) s1 else .no
    | none => .no
  | .lst es, s => (evEs cl tb es s).bind fun rs s1 => match valsOf rs with
    | some l => if l.length ≤ line then .ok (.frs (.lst l)) s1 else .no
    | none => .no
  | .sub a b, s => (evE cl tb a s).bind fun x s1 => (evE cl tb b s1).bind fun y s2 => match deref s2 x, deref s2 y with
    | some u, some v => match subV u v with
      | some w => .ok (.val w) s2
      | none => .no
    | _, _ => .no
  | .slc a lo hi, s => (evE cl tb a s).bind fun x s1 => (evO cl tb lo s1).bind fun l s2 => (evO cl tb hi s2).bind fun h s3 => match deref s3 x with
    | some u => ret1 s3 (slcV u l h)
    | none => .no
  | .cal g es, s => (evEs cl tb es s).bind fun rs s1 => callG cl tb g rs s1
  | .bui b es, s => (evEs cl tb es s).bind fun rs s1 => match derefs s1 rs with
    | some l => ret1 s1 (biV b l)
    | none => .no
  | .rev a, s => (evE cl tb a s).bind fun x s1 => match deref s1 x with
    | some (.lst l) => .ok (.frs (.lst l.reverse)) s1
    | _ => .no
  | .ded, _ => .no
  | .lc own tg k src ifs e, s => (evEs cl tb src s).bind fun rs s1 => match valsOf rs with
    | some l => match itV k l with
      | some xs => (lcGo own tg (evT cl tb ifs) (evE cl tb e) xs 0 [] s1).bind fun ys s2 => .ok (.frs (.lst ys)) s2
      | none => .no
    | none => .no
def evEs (cl : Cl) (tb : Nat → Option Fd) : List CE → Sg → Rs (List RV)
  | [], s => .ok [] s
  | e :: es, s => (evE cl tb e s).bind fun r s1 => (evEs cl tb es s1).bind fun rs s2 => .ok (r :: rs) s2
def evO (cl : Cl) (tb : Nat → Option Fd) : Option CE → Sg → Rs (Option Int)
  | none, s => .ok none s
  | some e, s => (evE cl tb e s).bind fun r s1 => match r.int? with
    | some i => .ok (some i) s1
    | none => .no
def evT (cl : Cl) (tb : Nat → Option Fd) : List CE → Sg → Rs Bool
  | [], s => .ok true s
  | e :: es, s => (asB (evE cl tb e s)).bind fun b s1 => if b then evT cl tb es s1 else .ok false s1
end
/-- turns of a while -/
def fuel : Nat := 1000000000
def whGo (t : Sg → Rs Bool) (b : Sg → Ss) : Nat → Sg → Ss
  | 0, _ => .no
  | n + 1, s => match t s with
    | .ok true s1 => match b s1 with
      | .nx s2 => whGo t b n s2
      | .ct s2 => whGo t b n s2
      | .bk s2 => .nx s2
      | r => r
    | .ok false s1 => .nx s1
    | .er x s1 => .er x s1
    | .no => .no
def frGo (tg : Tg) (b : Sg → Ss) : List PV → Sg → Ss
  | [], s => .nx s
  | x :: xs, s => match tg.store x s with
    | none => .no
    | some s1 => match b s1 with
      | .nx s2 => frGo tg b xs s2
      | .ct s2 => frGo tg b xs s2
      | .bk s2 => .nx s2
      | r => r
def toSs {α : Type} (r : Rs α) (f : α → Sg → Ss) : Ss := match r with
  | .ok a s => f a s
  | .er x s => .er x s
  | .no => .no
def setAll : List Nat → List RV → Sg → Option Sg
  | [], [], s => some s
  | i :: is, r :: rs, s => match Tg.asg (.nm i) r s with
    | some s1 => setAll is rs s1
    | none => none
  | _, _, _ => none
def ownL (s : Sg) (i : Nat) : Option (Bool × List PV) := match s[i]? with
  | some (.own t (.lst l)) => some (t, l)
  | _ => none
def isOwnL (s : Sg) (i : Nat) : Bool := match s[i]? with
  | some (.own _ (.lst _)) => true
  | _ => false
/-- what is handed back: a list of the def's own goes out -/
def retV (s : Sg) : RV → Option (RV × Sg)
  | .val x => some (.val x, s)
  | .frs x => some (.frs x, s)
  | .bor i => match s[i]? with
    | some (.own true x) => some (.frs x, s.set i .un)
    | _ => none
mutual
def exS (cl : Cl) (tb : Nat → Option Fd) : CS → Sg → Ss
  | .asg t e, s => toSs (evE cl tb e s) fun r s1 => match t.asg r s1 with
    | some s2 => .nx s2
    | none => .no
  | .par is es, s => toSs (evEs cl tb es s) fun rs s1 => match setAll is rs s1 with
    | some s2 => .nx s2
    | none => .no
  | .aug i op e, s => match s[i]? with
    | some (.pv (.int m)) => toSs (evE cl tb e s) fun r s1 => match r.int? with
      | some k => match op with
        | .Add => .nx (s1.set i (.pv (.int (m + k))))
        | .Sub => .nx (s1.set i (.pv (.int (m - k))))
        | _ => .no
      | none => .no
    | _ => .no
  | .set i ix e, s => toSs (evE cl tb e s) fun r s1 => match isOwnL s1 i with
    | true => toSs (evE cl tb ix s1) fun j s2 => match valOf r, j.int?, ownL s2 i with
      | some v, some k, some (t, l) => match ixP l.length k with
        | some m => .nx (s2.set i (.own t (.lst (l.set m v))))
        | none => .no
      | _, _, _ => .no
    | false => .no
  | .app i e, s => match isOwnL s i with
    | true => toSs (evE cl tb e s) fun r s1 => match valOf r, ownL s1 i with
      | some v, some (t, l) => if l.length < line then .nx (s1.set i (.own t (.lst (l ++ [v])))) else .no
      | _, _ => .no
    | false => .no
  | .exp e, s => toSs (evE cl tb e s) fun _ s1 => .nx s1
  | .ret e, s => toSs (evE cl tb e s) fun r s1 => match retV s1 r with
    | some (r, s2) => .rt r s2
    | none => .no
  | .retN, s => .rt (.val .non) s
  | .ite t a b, s => toSs (asB (evE cl tb t s)) fun c s1 => if c then exSs cl tb a s1 else exSs cl tb b s1
  | .whl t b, s => whGo (fun s => asB (evE cl tb t s)) (exSs cl tb b) fuel s
  | .fro tg k src b, s => toSs (evEs cl tb src s) fun rs s1 => match valsOf rs with
    | some l => match itV k l with
      | some xs => frGo tg (exSs cl tb b) xs s1
      | none => .no
    | none => .no
  | .brk, s => .bk s
  | .cnt, s => .ct s
  | .pas, s => .nx s
  | .ded, _ => .no
def exSs (cl : Cl) (tb : Nat → Option Fd) : List CS → Sg → Ss
  | [], s => .nx s
  | c :: cs, s => match exS cl tb c s with
    | .nx s1 => exSs cl tb cs s1
    | r => r
end
/-- the arguments' slots behind a call -/
def outs (mp : List Nat) (s : Sg) : Nat → Sg → Sg
  | _, [] => []
  | k, .pv x :: as => .pv x :: outs mp s (k + 1) as
  | k, .own _ _ :: as => (if mp.contains k then (s[k]?).getD .un else .un) :: outs mp s (k + 1) as
  | k, .un :: as => .un :: outs mp s (k + 1) as
def runF (tb : Nat → Option Fd) : Nat → Cl
  | 0, _, _ => .no
  | n + 1, g, as => match tb g with
    | none => .no
    | some d => if as.length = d.np then
        match exSs (runF tb n) tb d.body (as ++ List.replicate (d.N.length - d.np) .un) with
        | .nx s => .ok (.val .non) (outs d.mp s 0 as)
        | .rt r s => if isBor r then .no else .ok r (outs d.mp s 0 as)
        | .er x s => .er x (outs d.mp s 0 as)
        | _ => .no
      else .no
end Mp

/-! MpRep: how the trees lie in the layer's heap. -/
namespace Mp
open PySem PySem.Spec PyProof.Rows L2

/-- what is fixed through a law: the text, the written part, the table of defs -/
structure Ctx where
  P : Program
  w : World
  K : PySem.W.Frag
  mg : Str → Option Value
  base : Heap
  tb : Nat → Option Fd
  gv : Nat → Option V
  xc : Nat → Option Value
abbrev As := Addr → Prop

/-- a list that nobody writes: told by its object, or the written part's -/
def FrzL (K : PySem.W.Frag) (H : Hp) (a : Addr) (xs : List V) : Prop :=
  (∃ o, H a = some (.frz o (.lst xs))) ∨ ∃ (o : Obj) (its : Array Value) (n : Nat), K.lookup a = some o ∧ o.cls = .type "list" ∧ o.dict = none ∧ o.data = .seq its n ∧ its.size ≤ sizeLine ∧ Vals xs its.toList
mutual
/-- the tree x lies at v, away from z -/
inductive Rep (C : Ctx) (z : As) (H : Hp) : PV → V → Prop
  | non : Rep C z H .non .non
  | bl (b : Bool) : Rep C z H (.bl b) (.bl b)
  | int (i : Int) : Rep C z H (.int i) (.int i)
  | str (s : Str) : Rep C z H (.str s) (.str s)
  | ty (n : String) : Rep C z H (.ty n) (.ty n)
  | fn {g : Nat} {v : V} : C.gv g = some v → Rep C z H (.fn g) v
  | tup {a : Addr} {xs : List PV} {vs : List V} : SqT C.K H a vs → RepL C z H xs vs → Rep C z H (.tup xs) (.ref a)
  | lst {a : Addr} {xs : List PV} {vs : List V} : H a = some (.lst vs) → ¬ z a → RepL C z H xs vs → Rep C z H (.lst xs) (.ref a)
  | frz {a : Addr} {xs : List PV} {vs : List V} : FrzL C.K H a vs → RepL C z H xs vs → Rep C z H (.frz xs) (.ref a)
inductive RepL (C : Ctx) (z : As) (H : Hp) : List PV → List V → Prop
  | nil : RepL C z H [] []
  | cons {x : PV} {v : V} {xs : List PV} {vs : List V} : Rep C z H x v → RepL C z H xs vs → RepL C z H (x :: xs) (v :: vs)
end
/-- .. where the outermost list may be in z -/
inductive Top (C : Ctx) (z : As) (H : Hp) : PV → V → Prop
  | of {x : PV} {v : V} : Rep C z H x v → Top C z H x v
  | lst {a : Addr} {xs : List PV} {vs : List V} : H a = some (.lst vs) → RepL C z H xs vs → Top C z H (.lst xs) (.ref a)

section
variable {C : Ctx} {z z' z'' : As} {H H' H'' : Hp}
theorem RepL.length : ∀ {xs : List PV} {vs : List V}, RepL C z H xs vs → xs.length = vs.length
  | [], _, h => by cases h; rfl
  | x :: xs, _, h => by cases h with | cons a b => rw [List.length_cons, List.length_cons, b.length]
theorem RepL.get : ∀ {xs : List PV} {vs : List V} {i : Nat} {x : PV}, RepL C z H xs vs → xs[i]? = some x → ∃ v, vs[i]? = some v ∧ Rep C z H x v
  | [], _, _, _, _, e => by simp at e
  | _ :: _, _, 0, _, h, e => by cases h with | cons a b => simp at e; subst e; exact ⟨_, rfl, a⟩
  | _ :: xs, _, i + 1, x, h, e => by
    cases h with
    | cons a b =>
      obtain ⟨v, h1, h2⟩ := RepL.get (i := i) b (by simpa using e)
      exact ⟨v, by simpa using h1, h2⟩
theorem RepL.get' : ∀ {xs : List PV} {vs : List V} {i : Nat} {v : V}, RepL C z H xs vs → vs[i]? = some v → ∃ x, xs[i]? = some x ∧ Rep C z H x v
  | [], _, _, _, h, e => by cases h; simp at e
  | _ :: _, _, 0, _, h, e => by cases h with | cons a b => simp at e; subst e; exact ⟨_, rfl, a⟩
  | _ :: xs, _, i + 1, x, h, e => by
    cases h with
    | cons a b =>
      obtain ⟨v, h1, h2⟩ := RepL.get' (i := i) b (by simpa using e)
      exact ⟨v, by simpa using h1, h2⟩
theorem RepL.append : ∀ {xs ys : List PV} {vs ws : List V}, RepL C z H xs vs → RepL C z H ys ws → RepL C z H (xs ++ ys) (vs ++ ws)
  | [], _, _, _, h, q => by cases h; exact q
  | _ :: _, _, _, _, h, q => by cases h with | cons a b => exact .cons a (RepL.append b q)
theorem RepL.take : ∀ {xs : List PV} {vs : List V} (n : Nat), RepL C z H xs vs → RepL C z H (xs.take n) (vs.take n)
  | _, _, 0, _ => .nil
  | [], _, _ + 1, h => by cases h; exact .nil
  | _ :: _, _, n + 1, h => by cases h with | cons a b => exact .cons a (RepL.take n b)
theorem RepL.drop : ∀ {xs : List PV} {vs : List V} (n : Nat), RepL C z H xs vs → RepL C z H (xs.drop n) (vs.drop n)
  | _, _, 0, r => r
  | [], _, _ + 1, h => by cases h; exact .nil
  | _ :: _, _, n + 1, h => by cases h with | cons a b => exact RepL.drop n b
theorem RepL.set : ∀ {xs : List PV} {vs : List V} {x : PV} {v : V} (i : Nat), Rep C z H x v → RepL C z H xs vs → RepL C z H (xs.set i x) (vs.set i v)
  | [], _, _, _, _, _, h => by cases h; exact .nil
  | _ :: _, _, _, _, 0, r, h => by cases h with | cons a b => exact .cons r b
  | _ :: _, _, _, _, i + 1, r, h => by cases h with | cons a b => exact .cons a (RepL.set i r b)
theorem RepL.rep {xs : List PV} {vs : List V} (h : RepL C z H xs vs) : ∀ n : Nat, RepL C z H (List.replicate n xs).flatten (List.replicate n vs).flatten
  | 0 => .nil
  | n + 1 => by
    rw [List.replicate_succ, List.replicate_succ, List.flatten_cons, List.flatten_cons]
    exact h.append (h.rep n)

/-- an object that may be written -/
def MutO : HO → Prop
  | .lst _ => True
  | _ => False
/-- what may change: M, within z, all lists; what is private behind: z' -/
structure Stp (M z : As) (H : Hp) (z' : As) (H' : Hp) : Prop where
  keep : ∀ a o, H a = some o → ¬ M a → H' a = some o
  there : ∀ a, H' a = none → H a = none
  priv : ∀ a, z a → ¬ M a → z' a
  new : ∀ a, z' a → z a ∨ H a = none
/-- M is well chosen -/
structure MOk (M z : As) (H : Hp) : Prop where
  sub : ∀ a, M a → z a
  wrt : ∀ a, M a → ∃ o, H a = some o ∧ MutO o
theorem Stp.refl (M z : As) (H : Hp) : Stp M z H z H := ⟨fun _ _ e _ => e, fun _ e => e, fun _ e _ => e, fun _ e => .inl e⟩
theorem Stp.trans {M M' : As} (a : Stp M z H z' H') (b : Stp M' z' H' z'' H'') (m : ∀ x, M' x → M x ∨ H x = none) (zt : ∀ x, z x → H x ≠ none) : Stp M z H z'' H'' where
  keep := fun x o e n => b.keep x o (a.keep x o e n) fun q => by
    rcases m x q with q | q
    · exact n q
    · rw [q] at e; cases e
  there := fun x e => a.there x (b.there x e)
  priv := fun x e n => by
    by_cases q : M' x
    · rcases m x q with q2 | q2
      · exact absurd q2 n
      · exact absurd q2 (zt x e)
    · exact b.priv x (a.priv x e n) q
  new := fun x e => by
    rcases b.new x e with q | q
    · exact a.new x q
    · exact .inr (a.there x q)

theorem SqT.keep {K : PySem.W.Frag} {M : As} (k : ∀ a o, H a = some o → ¬ M a → H' a = some o) (mm : ∀ a, M a → ∃ o, H a = some o ∧ MutO o) {a : Addr} {vs : List V} (s : SqT K H a vs) : SqT K H' a vs := by
  rcases s with (s | ⟨o, s⟩) | s
  · refine .inl (.inl (k _ _ s fun q => ?_))
    obtain ⟨o, e, m⟩ := mm _ q
    rw [s] at e; cases e; exact m
  · refine .inl (.inr ⟨o, k _ _ s fun q => ?_⟩)
    obtain ⟨o, e, m⟩ := mm _ q
    rw [s] at e; cases e; exact m
  · exact .inr s
theorem FrzL.keep {K : PySem.W.Frag} {M : As} (k : ∀ a o, H a = some o → ¬ M a → H' a = some o) (mm : ∀ a, M a → ∃ o, H a = some o ∧ MutO o) {a : Addr} {vs : List V} (s : FrzL K H a vs) : FrzL K H' a vs := by
  rcases s with ⟨o, s⟩ | s
  · refine .inl ⟨o, k _ _ s fun q => ?_⟩
    obtain ⟨o, e, m⟩ := mm _ q
    rw [s] at e; cases e; exact m
  · exact .inr s
theorem FrzL.sql {K : PySem.W.Frag} {a : Addr} {vs : List V} (s : FrzL K H a vs) : SqL K H a vs := by
  rcases s with s | s
  · exact .inl (.inr s)
  · exact .inr s
mutual
/-- what lies away from z stays -/
theorem Rep.keep {M : As} (k : ∀ a o, H a = some o → ¬ M a → H' a = some o) (m : MOk M z H) (n : ∀ a, z' a → z a ∨ H a = none) : ∀ (x : PV) (v : V), Rep C z H x v → Rep C z' H' x v
  | .non, _, h => by cases h; exact .non
  | .bl _, _, h => by cases h; exact .bl _
  | .int _, _, h => by cases h; exact .int _
  | .str _, _, h => by cases h; exact .str _
  | .ty _, _, h => by cases h; exact .ty _
  | .fn _, _, h => by cases h with | fn e => exact .fn e
  | .tup xs, _, h => by cases h with | tup s r => exact .tup (SqT.keep k m.wrt s) (RepL.keep k m n xs _ r)
  | .frz xs, _, h => by cases h with | frz s r => exact .frz (FrzL.keep k m.wrt s) (RepL.keep k m n xs _ r)
  | .lst xs, _, h => by
    cases h with
    | lst e nz r =>
      refine .lst (k _ _ e fun q => nz (m.sub _ q)) (fun q => ?_) (RepL.keep k m n xs _ r)
      rcases n _ q with q | q
      · exact nz q
      · rw [e] at q; cases q
theorem RepL.keep {M : As} (k : ∀ a o, H a = some o → ¬ M a → H' a = some o) (m : MOk M z H) (n : ∀ a, z' a → z a ∨ H a = none) : ∀ (xs : List PV) (vs : List V), RepL C z H xs vs → RepL C z' H' xs vs
  | [], _, h => by cases h; exact .nil
  | x :: xs, _, h => by cases h with | cons a b => exact .cons (Rep.keep k m n x _ a) (RepL.keep k m n xs _ b)
end
theorem Rep.step {M : As} {x : PV} {v : V} (h : Rep C z H x v) (s : Stp M z H z' H') (m : MOk M z H) : Rep C z' H' x v := Rep.keep s.keep m s.new x v h
theorem RepL.step {M : As} {x : List PV} {v : List V} (h : RepL C z H x v) (s : Stp M z H z' H') (m : MOk M z H) : RepL C z' H' x v := RepL.keep s.keep m s.new x v h
theorem Top.step {M : As} {x : PV} {v : V} (h : Top C z H x v) (s : Stp M z H z' H') (m : MOk M z H) (hv : ∀ a, v = .ref a → ¬ M a) : Top C z' H' x v := by
  cases h with
  | of h => exact .of (h.step s m)
  | lst e r => exact .lst (s.keep _ _ e (hv _ rfl)) (r.step s m)
/-- less is private -/
theorem Stp.drop {M : As} (a : Addr) (s : Stp M z H z' H') (h : ¬ z a ∨ M a) : Stp M z H (fun b => z' b ∧ b ≠ a) H' :=
  ⟨s.keep, s.there, fun b e n => ⟨s.priv b e n, fun q => by
    subst q
    rcases h with h | h
    · exact h e
    · exact n h⟩, fun b e => s.new b e.1⟩
theorem Rep.less {x : PV} {v : V} (h : Rep C z H x v) (hz : ∀ a, z' a → z a) : Rep C z' H x v := Rep.keep (M := fun _ => False) (fun _ _ e _ => e) ⟨fun _ q => q.elim, fun _ q => q.elim⟩ (fun a e => .inl (hz a e)) x v h
theorem RepL.less {x : List PV} {v : List V} (h : RepL C z H x v) (hz : ∀ a, z' a → z a) : RepL C z' H x v := RepL.keep (M := fun _ => False) (fun _ _ e _ => e) ⟨fun _ q => q.elim, fun _ q => q.elim⟩ (fun a e => .inl (hz a e)) x v h

end

/-! ### slots -/
/-- an activation: the mutable parameters' slots and addresses, the heap at its entry -/
structure Act where
  mp : List (Nat × Addr)
  H0 : Hp
def Own (p : Sg) (σ : L2.St) (a : Addr) : Prop := ∃ (i : Nat) (t : Bool) (x : PV), p[i]? = some (.own t x) ∧ σ[i]? = some (some (.ref a))
structure SRel (C : Ctx) (L : Act) (z : As) (H : Hp) (p : Sg) (σ : L2.St) : Prop where
  len : p.length = σ.length
  zt : ∀ a, z a → H a ≠ none
  h0 : ∀ a, H a = none → L.H0 a = none
  pv : ∀ (i : Nat) (x : PV), p[i]? = some (.pv x) → ∃ v, σ[i]? = some (some v) ∧ Rep C z H x v
  ow : ∀ (i : Nat) (t : Bool) (x : PV), p[i]? = some (.own t x) → ∃ (a : Addr) (o : HO), σ[i]? = some (some (V.ref a)) ∧ z a ∧ H a = some o ∧ MutO o ∧ Top C z H x (.ref a) ∧ (t = true → L.H0 a = none)
  dj : ∀ (i j : Nat) (t u : Bool) (x y : PV) (a : Addr), p[i]? = some (.own t x) → p[j]? = some (.own u y) → σ[i]? = some (some (.ref a)) → σ[j]? = some (some (.ref a)) → i = j
  mp : ∀ q ∈ L.mp, σ[q.1]? = some (some (.ref q.2))
section
variable {C : Ctx} {L : Act} {z z' z'' : As} {H H' H'' : Hp} {p p' p'' : Sg} {σ σ' σ'' : L2.St}
theorem SRel.mok (s : SRel C L z H p σ) : MOk (Own p σ) z H := ⟨fun a ⟨i, t, x, h1, h2⟩ => by
    obtain ⟨b, o, e, hz, _⟩ := s.ow i t x h1
    rw [h2] at e; cases e; exact hz, fun a ⟨i, t, x, h1, h2⟩ => by
    obtain ⟨b, o, e, hz, ho, m, _⟩ := s.ow i t x h1
    rw [h2] at e; cases e; exact ⟨o, ho, m⟩⟩
/-- from one state to a later one -/
structure Go (C : Ctx) (L : Act) (z : As) (H : Hp) (p : Sg) (σ : L2.St) (z' : As) (H' : Hp) (p' : Sg) (σ' : L2.St) : Prop where
  rel : SRel C L z' H' p' σ'
  stp : Stp (Own p σ) z H z' H'
  own : ∀ a, Own p' σ' a → Own p σ a ∨ H a = none
theorem Go.refl (s : SRel C L z H p σ) : Go C L z H p σ z H p σ := ⟨s, .refl _ _ _, fun _ e => .inl e⟩
theorem Go.trans (s : SRel C L z H p σ) (a : Go C L z H p σ z' H' p' σ') (b : Go C L z' H' p' σ' z'' H'' p'' σ'') : Go C L z H p σ z'' H'' p'' σ'' :=
  ⟨b.rel, a.stp.trans b.stp a.own s.zt, fun x e => by
    rcases b.own x e with q | q
    · exact a.own x q
    · exact .inr (a.stp.there x q)⟩
/-- a value's place now; H0: the heap where its making began -/
inductive RRep (C : Ctx) (z : As) (H0 H : Hp) (p : Sg) (σ : L2.St) : RV → V → Prop
  | val {x : PV} {v : V} : Rep C z H x v → RRep C z H0 H p σ (.val x) v
  | frs {x : PV} {a : Addr} {o : HO} : H0 a = none → z a → ¬ Own p σ a → H a = some o → MutO o → Top C z H x (.ref a) → RRep C z H0 H p σ (.frs x) (.ref a)
  | bor {i : Nat} {v : V} : σ[i]? = some (some v) → RRep C z H0 H p σ (.bor i) v
end
end Mp

/-! MpA: readings by the interpreter; how states and values are carried on. -/
namespace Mp
open PySem PySem.Spec PyProof.Rows L2

theorem PE.imp {X : Cx} {e : Expr} {t t' : TE} (h : PE X e t) (w : ∀ σ H Q, t' σ H Q → t σ H Q) : PE X e t' := ⟨fun pins s σ H Q I q => h.run pins s σ H Q I (w σ H Q q)⟩
theorem PT.imp {X : Cx} {e : Expr} {t t' : TT} (h : PT X e t) (w : ∀ σ H Q, t' σ H Q → t σ H Q) : PT X e t' := ⟨fun pins s σ H Q I q => h.run pins s σ H Q I (w σ H Q q)⟩
theorem PA.imp {X : Cx} {e : List Expr} {t t' : TA} (h : PA X e t) (w : ∀ σ H Q, t' σ H Q → t σ H Q) : PA X e t' := ⟨fun pos pins s σ H Q I q => h.run pos pins s σ H Q I (w σ H Q q)⟩
theorem PS.imp {X : Cx} {e : Stmt} {t t' : TS} (h : PS X e t) (w : ∀ D σ H, t' D σ H → t D σ H) : PS X e t' := ⟨fun pins s σ H D I q => h.run pins s σ H D I (w D σ H q)⟩
theorem PSs.imp {X : Cx} {e : List Stmt} {t t' : TS} (h : PSs X e t) (w : ∀ D σ H, t' D σ H → t D σ H) : PSs X e t' := ⟨fun pins s σ H D I q => h.run pins s σ H D I (w D σ H q)⟩
theorem PI.imp {X : Cx} {tg e : Expr} {t t' : TI} (h : PI X tg e t) (w : ∀ σ H R, t' σ H R → t σ H R) : PI X tg e t' := ⟨fun pins s σ H R I q => h.run pins s σ H R I (w σ H R q)⟩
theorem PG.imp {X : Cx} {tg : Expr} {t t' : TG} (h : PG X tg t) (w : ∀ v σ H Q, t' v σ H Q → t v σ H Q) : PG X tg t' := ⟨fun pins s σ H v u Q I r q => h.run pins s σ H v u Q I r (w v σ H Q q)⟩

/-- how an exception lies behind: its class, its own dict -/
def XRep (C : Ctx) (z : As) (H : Hp) (x : Xc) (cls : Value) (d : Option Addr) : Prop :=
  C.xc x.c = some cls ∧ (x.fs ≠ [] → ∃ dx fs, d = some dx ∧ H dx = some (.xd fs) ∧ fs.map (·.1) = x.fs.map (·.1) ∧ RepL C z H (x.fs.map (·.2)) (fs.map (·.2)))
section
variable (C : Ctx) (L : Act) (W : WX)
def OutE {α β : Type} (RR : As → Hp → Hp → Sg → L2.St → α → β → Prop) (σ : L2.St) (z : As) (H : Hp) (p : Sg) (Q : β → Hp → Prop) : Rs α → Prop
  | .ok r p' => ∀ v H' z', Go C L z H p σ z' H' p' σ → RR z' H H' p' σ r v → Q v H'
  | .er x p' => ∀ cls d H' z', Go C L z H p σ z' H' p' σ → XRep C z' H' x cls d → W cls d σ H'
  | .no => False
def tOf (f : Sg → Rs RV) : TE := fun σ H Q => ∃ z p, SRel C L z H p σ ∧ OutE C L W (RRep C) σ z H p Q (f p)
/-- where an unshared list among the values stands -/
def FrsIn (rs : List RV) (vs : List V) (a : Addr) : Prop := ∃ (i : Nat) (x : PV), rs[i]? = some (.frs x) ∧ vs[i]? = some (.ref a)
inductive RRepL (z : As) (H0 H : Hp) (p : Sg) (σ : L2.St) : List RV → List V → Prop
  | nil : RRepL z H0 H p σ [] []
  | cons {r : RV} {v : V} {rs : List RV} {vs : List V} : RRep C z H0 H p σ r v → RRepL z H0 H p σ rs vs → (∀ x a, r = .frs x → v = .ref a → ¬ FrsIn rs vs a) → RRepL z H0 H p σ (r :: rs) (v :: vs)
def tOfL (f : Sg → Rs (List RV)) : TA := fun σ H Q => ∃ z p, SRel C L z H p σ ∧ OutE C L W (RRepL C) σ z H p Q (f p)
def tOfB (f : Sg → Rs Bool) : TT := fun σ H Q => ∃ z p, SRel C L z H p σ ∧ OutE C L W (fun _ _ _ _ _ (r : Bool) (v : Bool) => r = v) σ z H p Q (f p)
end
section
variable {C : Ctx} {L : Act} {W : WX} {z z' z'' : As} {H H' H'' : Hp} {p p' p'' : Sg} {σ σ' σ'' : L2.St}
theorem OutE.bind {α β γ δ : Type} {RR : As → Hp → Hp → Sg → L2.St → α → β → Prop} {RR2 : As → Hp → Hp → Sg → L2.St → γ → δ → Prop} {Q : δ → Hp → Prop} {Q1 : β → Hp → Prop} {r : Rs α} {f : α → Sg → Rs γ} (s : SRel C L z H p σ)
    (h : OutE C L W RR2 σ z H p Q (r.bind f))
    (k : ∀ a p1 v H1 z1, r = .ok a p1 → Go C L z H p σ z1 H1 p1 σ → RR z1 H H1 p1 σ a v → OutE C L W RR2 σ z H p Q (f a p1) → Q1 v H1) : OutE C L W RR σ z H p Q1 r := by
  cases r with
  | ok a p1 => exact fun v H1 z1 g rr => k a p1 v H1 z1 rfl g rr h
  | er x p1 => exact h
  | no => exact h
/-- going on from a later state -/
theorem OutE.later {α β : Type} {RR : As → Hp → Hp → Sg → L2.St → α → β → Prop} {Q : β → Hp → Prop} {r : Rs α} (s : SRel C L z H p σ) (g : Go C L z H p σ z' H' p' σ)
    (up : ∀ z'' H'' p'' a v, RR z'' H' H'' p'' σ a v → RR z'' H H'' p'' σ a v) (h : OutE C L W RR σ z H p Q r) : OutE C L W RR σ z' H' p' Q r := by
  cases r with
  | ok a p1 => exact fun v H1 z1 g1 rr => h v H1 z1 (g.trans s g1) (up _ _ _ _ _ rr)
  | er x p1 => exact fun cls d H1 z1 g1 rr => h cls d H1 z1 (g.trans s g1) rr
  | no => exact h
theorem RRep.up {H0 H1 : Hp} {r : RV} {v : V} (h : RRep C z H1 H p σ r v) (hh : ∀ a, H1 a = none → H0 a = none) : RRep C z H0 H p σ r v := by
  cases h with
  | val h => exact .val h
  | frs a b c d e f => exact .frs (hh _ a) b c d e f
  | bor a => exact .bor a
theorem RRepL.up {H0 H1 : Hp} {r : List RV} {v : List V} (h : RRepL C z H1 H p σ r v) (hh : ∀ a, H1 a = none → H0 a = none) : RRepL C z H0 H p σ r v := by
  induction h with
  | nil => exact .nil
  | cons a b c ih => exact .cons (a.up hh) ih c
theorem RRep.go {H0 : Hp} {r : RV} {v : V} (h : RRep C z H0 H p σ r v) (s : SRel C L z H p σ) (g : Go C L z H p σ z' H' p' σ) : RRep C z' H0 H' p' σ r v := by
  cases h with
  | val h => exact .val (h.step g.stp s.mok)
  | frs a b c d e f => exact .frs a (g.stp.priv _ b c) (fun q => by
      rcases g.own _ q with q | q
      · exact c q
      · rw [d] at q; cases q) (g.stp.keep _ _ d c) e (f.step g.stp s.mok fun a e => by cases e; exact c)
  | bor a => exact .bor a
theorem deref_top {H0 : Hp} {r : RV} {v : V} {x : PV} (s : SRel C L z H p σ) (h : RRep C z H0 H p σ r v) (e : deref p r = some x) : Top C z H x v := by
  cases h with
  | val h => cases e; exact .of h
  | frs a b c d m f => cases e; exact f
  | @bor i v hs =>
    unfold deref at e
    dsimp only at e
    cases q : p[i]? with
    | none => rw [q] at e; cases e
    | some sl =>
      rw [q] at e
      cases sl with
      | un => cases e
      | pv y =>
        cases e
        obtain ⟨w, h1, h2⟩ := s.pv i _ q
        rw [hs] at h1; cases h1
        exact .of h2
      | own t y =>
        cases e
        obtain ⟨a, o, h1, _, _, _, h2, _⟩ := s.ow i _ _ q
        rw [hs] at h1; cases h1
        exact h2
/-- values that become parts -/
theorem Go.less (s : SRel C L z H p σ) (g : Go C L z H p σ z' H' p' σ) (F : Addr → Prop) (hF : ∀ a, F a → H a = none ∧ ¬ Own p' σ a) : Go C L z H p σ (fun a => z' a ∧ ¬ F a) H' p' σ where
  rel := ⟨g.rel.len, fun a e => g.rel.zt a e.1, g.rel.h0, fun i x e => by
      obtain ⟨v, h1, h2⟩ := g.rel.pv i x e
      exact ⟨v, h1, h2.less fun a q => q.1⟩, fun i t x e => by
      obtain ⟨a, o, h1, h2, h3, h4, h5, h6⟩ := g.rel.ow i t x e
      refine ⟨a, o, h1, ⟨h2, fun q => (hF a q).2 ⟨i, t, x, e, h1⟩⟩, h3, h4, ?_, h6⟩
      cases h5 with
      | of h => exact .of (h.less fun a q => q.1)
      | lst e r => exact .lst e (r.less fun a q => q.1), g.rel.dj, g.rel.mp⟩
  stp := ⟨g.stp.keep, g.stp.there, fun a e n => ⟨g.stp.priv a e n, fun q => s.zt a e (hF a q).1⟩, fun a e => g.stp.new a e.1⟩
  own := g.own
theorem frsIn_facts {rs : List RV} {vs : List V} (h : RRepL C z' H H' p' σ rs vs) : ∀ a, FrsIn rs vs a → H a = none ∧ ¬ Own p' σ a := by
  induction h with
  | nil => rintro a ⟨i, x, e, _⟩; simp at e
  | cons r rr d ih =>
    rintro a ⟨i, x, e1, e2⟩
    cases i with
    | zero =>
      simp at e1 e2
      subst e1 e2
      cases r with
      | frs q1 q2 q3 _ _ _ => exact ⟨q1, q3⟩
    | succ i => exact ih a ⟨i, x, by simpa using e1, by simpa using e2⟩
theorem vals_rep {rs : List RV} {vs : List V} : ∀ {xs : List PV}, RRepL C z' H H' p' σ rs vs → valsOf rs = some xs → ∀ (F : Addr → Prop), (∀ a, FrsIn rs vs a → F a) → RepL C (fun a => z' a ∧ ¬ F a) H' xs vs := by
  intro xs h
  induction h generalizing xs with
  | nil => intro e F _; unfold valsOf at e; cases e; exact .nil
  | @cons r v rs vs hr hrs hd ih =>
    intro e F hF
    unfold valsOf at e
    cases e1 : valOf r with
    | none => rw [e1] at e; cases e
    | some x =>
      rw [e1] at e
      cases e2 : valsOf rs with
      | none => rw [e2] at e; cases e
      | some ys =>
        rw [e2] at e
        cases e
        refine .cons ?_ (ih e2 F fun a ⟨i, y, h1, h2⟩ => hF a ⟨i + 1, y, by simpa using h1, by simpa using h2⟩)
        cases hr with
        | val h => cases e1; exact h.less fun a q => q.1
        | @frs y a o q1 q2 q3 q4 q5 q6 =>
          cases e1
          have fa : F a := hF a ⟨0, _, rfl, rfl⟩
          cases q6 with
          | of h => exact h.less fun a q => q.1
          | lst e r => exact .lst e (fun q => q.2 fa) (r.less fun a q => q.1)
        | bor _ => cases e1
theorem RRepL.length {H0 : Hp} {rs : List RV} {vs : List V} (h : RRepL C z H0 H p σ rs vs) : rs.length = vs.length := by
  induction h with
  | nil => rfl
  | cons _ _ _ ih => simp [ih]
theorem RRepL.go {H0 : Hp} {r : List RV} {v : List V} (h : RRepL C z H0 H p σ r v) (s : SRel C L z H p σ) (g : Go C L z H p σ z' H' p' σ) : RRepL C z' H0 H' p' σ r v := by
  induction h with
  | nil => exact .nil
  | cons a b c ih => exact .cons (a.go s g) ih c
inductive TopL (C : Ctx) (z : As) (H : Hp) : List PV → List V → Prop
  | nil : TopL C z H [] []
  | cons {x : PV} {v : V} {xs : List PV} {vs : List V} : Top C z H x v → TopL C z H xs vs → TopL C z H (x :: xs) (v :: vs)
theorem derefs_top {H0 : Hp} {rs : List RV} {vs : List V} (s : SRel C L z H p σ) : ∀ {xs : List PV}, RRepL C z H0 H p σ rs vs → derefs p rs = some xs → TopL C z H xs vs := by
  intro xs h
  induction h generalizing xs with
  | nil => intro e; unfold derefs at e; cases e; exact .nil
  | @cons r v rs vs hr hrs hd ih =>
    intro e
    unfold derefs at e
    cases e1 : deref p r with
    | none => rw [e1] at e; cases e
    | some x =>
      rw [e1] at e
      cases e2 : derefs p rs with
      | none => rw [e2] at e; cases e
      | some ys =>
        rw [e2] at e
        cases e
        exact .cons (deref_top s hr e1) (ih e2)
/-- a built operation's answer -/
inductive Ans (C : Ctx) (z : As) (H : Hp) : RV → V → Hp → Prop
  | val {x : PV} {v : V} {H' : Hp} : (∀ a o, H a = some o → H' a = some o) → Rep C z H' x v → Ans C z H (.val x) v H'
  | lst {a : Addr} {xs : List PV} {vs : List V} : H a = none → RepL C z H xs vs → Ans C z H (.frs (.lst xs)) (.ref a) (upd H a (.lst vs))
theorem Ans.same {x : PV} {v : V} (h : Rep C z H x v) : Ans C z H (.val x) v H := .val (fun _ _ e => e) h
theorem upd_keep {a : Addr} {o : HO} (n : H a = none) : ∀ b u, H b = some u → upd H a o b = some u := fun b u e => by
  rw [upd_ne (ne_of_none e n)]; exact e
theorem RepL.ext {xs : List PV} {vs : List V} (h : RepL C z H xs vs) (k : ∀ a o, H a = some o → H' a = some o) : RepL C z H' xs vs :=
  RepL.keep (M := fun _ => False) (fun a o e _ => k a o e) ⟨fun _ q => q.elim, fun _ q => q.elim⟩ (fun a e => .inl e) xs vs h
theorem Rep.ext {xs : PV} {vs : V} (h : Rep C z H xs vs) (k : ∀ a o, H a = some o → H' a = some o) : Rep C z H' xs vs :=
  Rep.keep (M := fun _ => False) (fun a o e _ => k a o e) ⟨fun _ q => q.elim, fun _ q => q.elim⟩ (fun a e => .inl e) xs vs h
theorem Ans.tup {a : Addr} {xs : List PV} {vs : List V} (n : H a = none) (r : RepL C z H xs vs) : Ans C z H (.val (.tup xs)) (.ref a) (upd H a (.tup vs)) :=
  .val (upd_keep n) (.tup (.of upd_same) (r.ext (upd_keep n)))
/-- all tracked objects stay -/
theorem SRel.ext (s : SRel C L z H p σ) (k : ∀ a o, H a = some o → H' a = some o) : SRel C L z H' p σ where
  len := s.len
  zt := fun a e q => by
    cases h : H a with
    | none => exact s.zt a e h
    | some o => rw [k _ _ h] at q; cases q
  h0 := fun a e => s.h0 a (by
    cases h : H a with
    | none => rfl
    | some o => rw [k _ _ h] at e; cases e)
  pv := fun i x e => let ⟨v, h1, h2⟩ := s.pv i x e; ⟨v, h1, h2.ext k⟩
  ow := fun i t x e => by
    obtain ⟨a, o, h1, h2, h3, h4, h5, h6⟩ := s.ow i t x e
    refine ⟨a, o, h1, h2, k _ _ h3, h4, ?_, h6⟩
    cases h5 with
    | of h => exact .of (h.ext k)
    | lst e r => exact .lst (k _ _ e) (r.ext k)
  dj := s.dj
  mp := s.mp
theorem Go.ext (g : Go C L z H p σ z' H' p' σ') (k : ∀ a o, H' a = some o → H'' a = some o) : Go C L z H p σ z' H'' p' σ' where
  rel := g.rel.ext k
  stp := ⟨fun a o e n => k _ _ (g.stp.keep a o e n), fun a e => g.stp.there a (by
    cases h : H' a with
    | none => rfl
    | some o => rw [k _ _ h] at e; cases e), g.stp.priv, g.stp.new⟩
  own := g.own
/-- more is private: a place that is new -/
theorem Go.more (s : SRel C L z H p σ) (g : Go C L z H p σ z' H' p' σ') {a : Addr} {o : HO} (n : H' a = none) : Go C L z H p σ (fun b => z' b ∨ b = a) (upd H' a o) p' σ' := by
  have g1 := g.ext (upd_keep (o := o) n)
  have nz : ∀ b, (z' b ∨ b = a) → z' b ∨ H' b = none := fun b q => q.imp id fun e => by subst e; exact n
  refine ⟨⟨g1.rel.len, fun b q => ?_, g1.rel.h0, fun i x e => ?_, fun i t x e => ?_, g1.rel.dj, g1.rel.mp⟩, ⟨g1.stp.keep, g1.stp.there, fun b e m => .inl (g1.stp.priv b e m), fun b q => ?_⟩, g1.own⟩
  · rcases q with q | q
    · exact g1.rel.zt b q
    · subst q; rw [upd_same]; intro z; cases z
  · obtain ⟨v, h1, h2⟩ := g.rel.pv i x e
    exact ⟨v, h1, Rep.keep (M := fun _ => False) (fun a o e _ => upd_keep n a o e) ⟨fun _ q => q.elim, fun _ q => q.elim⟩ nz _ _ h2⟩
  · obtain ⟨b, u, h1, h2, h3, h4, h5, h6⟩ := g.rel.ow i t x e
    refine ⟨b, u, h1, .inl h2, upd_keep n _ _ h3, h4, ?_, h6⟩
    cases h5 with
    | of h => exact .of (Rep.keep (M := fun _ => False) (fun a o e _ => upd_keep n a o e) ⟨fun _ q => q.elim, fun _ q => q.elim⟩ nz _ _ h)
    | lst e r => exact .lst (upd_keep n _ _ e) (RepL.keep (M := fun _ => False) (fun a o e _ => upd_keep n a o e) ⟨fun _ q => q.elim, fun _ q => q.elim⟩ nz _ _ r)
  · rcases q with q | q
    · exact g.stp.new b q
    · subst q; exact .inr (g.stp.there _ n)
/-- an operation's answer handed on -/
theorem Ans.fin {Q : V → Hp → Prop} {r : RV} {v : V} (s : SRel C L z H p σ) (g : Go C L z H p σ z' H' p' σ) (a : Ans C z' H' r v H'')
    (q : ∀ v H1 z1, Go C L z H p σ z1 H1 p' σ → RRep C z1 H H1 p' σ r v → Q v H1) : Q v H'' := by
  cases a with
  | val k h => exact q _ _ _ (g.ext k) (.val h)
  | @lst a xs vs n h =>
    refine q _ _ _ (g.more s (o := .lst vs) n) (.frs (g.stp.there _ n) (.inr rfl) (fun ⟨i, t, x, e1, e2⟩ => ?_) upd_same trivial (.lst upd_same ?_))
    · obtain ⟨b, o, h1, h2, h3, _⟩ := g.rel.ow i t x e1
      rw [e2] at h1; cases h1; rw [n] at h3; cases h3
    · exact RepL.keep (M := fun _ => False) (fun a o e _ => upd_keep n a o e) ⟨fun _ q => q.elim, fun _ q => q.elim⟩ (fun b q => q.imp id fun e => by subst e; exact n) _ _ h
end
end Mp

/-! MpV: operations by values. -/
namespace Mp
open PySem PySem.Spec PyProof.Rows L2

theorem cpsEq (x y : Str) : decide (x.cps.toList = y.cps.toList) = (x == y) := by
  by_cases h : x = y
  · subst h; simp
  · have h2 : ¬ x.cps.toList = y.cps.toList := fun e => h (by
      cases x; cases y; simp only [Str.mk.injEq] at *
      exact Array.toList_inj.mp e)
    rw [decide_eq_false h2]
    exact (beq_eq_false_iff_ne.mpr h).symm

mutual
theorem eqv_toD : ∀ (x y : PV), x.isd = true → y.isd = true → PyData.eqv x.toD y.toD = x.eqv y
  | .tup xs, .tup ys, hx, hy => eqvL_toD xs ys hx hy
  | .lst xs, .lst ys, hx, hy => eqvL_toD xs ys hx hy
  | .ty _, _, hx, _ => by simp [PV.isd] at hx
  | .fn _, _, hx, _ => by simp [PV.isd] at hx
  | .non, y, _, hy => by cases y <;> first | rfl | (simp [PV.isd] at hy; done)
  | .bl a, y, _, hy => by cases y <;> first | rfl | (simp [PV.isd] at hy; done) | (simp only [PV.toD, PyData.eqv, PV.eqv, Bool.beq_eq_decide_eq])
  | .int a, y, _, hy => by cases y <;> first | rfl | (simp [PV.isd] at hy; done) | (simp only [PV.toD, PyData.eqv, PV.eqv, Bool.beq_eq_decide_eq])
  | .str a, y, _, hy => by cases y <;> first | rfl | (simp [PV.isd] at hy; done) | exact (cpsEq _ _).symm
  | .tup xs, .non, _, _ => rfl
  | .tup xs, .bl _, _, _ => rfl
  | .tup xs, .int _, _, _ => rfl
  | .tup xs, .str _, _, _ => rfl
  | .tup xs, .lst _, _, _ => rfl
  | .tup xs, .ty _, _, hy => by simp [PV.isd] at hy
  | .tup xs, .fn _, _, hy => by simp [PV.isd] at hy
  | .lst xs, .non, _, _ => rfl
  | .lst xs, .bl _, _, _ => rfl
  | .lst xs, .int _, _, _ => rfl
  | .lst xs, .str _, _, _ => rfl
  | .lst xs, .tup _, _, _ => rfl
  | .lst xs, .ty _, _, hy => by simp [PV.isd] at hy
  | .lst xs, .fn _, _, hy => by simp [PV.isd] at hy
theorem eqvL_toD : ∀ (xs ys : List PV), PV.isdL xs = true → PV.isdL ys = true → PyData.eqvAll (PV.toDs xs) (PV.toDs ys) = PV.eqvL xs ys
  | [], [], _, _ => rfl
  | [], _ :: _, _, _ => rfl
  | _ :: _, [], _, _ => rfl
  | x :: xs, y :: ys, hx, hy => by
    simp only [PV.isdL, Bool.and_eq_true] at hx hy
    simp only [PV.toDs, PyData.eqvAll, PV.eqvL]
    rw [eqv_toD x y hx.1 hy.1, eqvL_toD xs ys hx.2 hy.2]
end
mutual
theorem canLay_toD : ∀ (x : PV), x.isd = true → x.toD.canLay0 = true
  | .non, _ => rfl
  | .bl _, _ => rfl
  | .int _, _ => rfl
  | .str s, h => by
    simp only [PV.isd] at h
    simp only [PV.toD, PyData.canLay0, PyData.strOk]
    rw [← Array.all_toList]
    exact h
  | .tup xs, h => canLay_toDs xs h
  | .lst xs, h => canLay_toDs xs h
  | .ty _, h => by simp [PV.isd] at h
  | .fn _, h => by simp [PV.isd] at h
  | .frz _, h => by simp [PV.isd] at h
theorem canLay_toDs : ∀ (xs : List PV), PV.isdL xs = true → PyData.canLayAll0 (PV.toDs xs) = true
  | [], _ => rfl
  | x :: xs, h => by
    simp only [PV.isdL, Bool.and_eq_true] at h
    simp only [PV.toDs, PyData.canLayAll0, canLay_toD x h.1, canLay_toDs xs h.2, Bool.and_self]
end
mutual
theorem dep_toD : ∀ (x : PV), x.toD.depth = x.dep
  | .non => rfl
  | .bl _ => rfl
  | .int _ => rfl
  | .str s => rfl
  | .tup xs => by simp only [PV.toD, PyData.depth, PV.dep, dep_toDs xs]
  | .lst xs => by simp only [PV.toD, PyData.depth, PV.dep, dep_toDs xs]
  | .ty _ => rfl
  | .fn _ => rfl
  | .frz _ => rfl
theorem dep_toDs : ∀ (xs : List PV), PyData.depthAll (PV.toDs xs) = PV.depL xs
  | [] => rfl
  | x :: xs => by simp only [PV.toDs, PyData.depthAll, PV.depL, dep_toD x, dep_toDs xs]
end
theorem shaped_of {n : Nat} {x : PV} (h : x.dat n = true) (hn : n ≤ 64) : SeqAt.shaped x.toD = true := by
  unfold PV.dat at h
  simp only [Bool.and_eq_true, decide_eq_true_eq] at h
  unfold SeqAt.shaped
  rw [canLay_toD x h.1, dep_toD]
  simp only [Bool.true_and, decide_eq_true_eq]
  omega
theorem isd_of {n : Nat} {x : PV} (h : x.dat n = true) : x.isd = true := by
  unfold PV.dat at h
  exact (Bool.and_eq_true_iff.mp h).1
section
variable {C : Ctx} {z : As} {H : Hp}
mutual
theorem Rep.dp : ∀ (x : PV) (v : V), Rep C z H x v → x.isd = true → Dp C.K H v x.toD
  | .non, _, h, _ => by cases h; exact .non
  | .bl _, _, h, _ => by cases h; exact .bl _
  | .int _, _, h, _ => by cases h; exact .int _
  | .str _, _, h, _ => by cases h; exact .str _
  | .tup xs, _, h, d => by cases h with | tup s r => exact .tup s (RepL.dp xs _ r d)
  | .lst xs, _, h, d => by cases h with | lst s _ r => exact .lst (SqL.of s) (RepL.dp xs _ r d)
  | .ty _, _, _, d => by simp [PV.isd] at d
  | .fn _, _, _, d => by simp [PV.isd] at d
  | .frz _, _, _, d => by simp [PV.isd] at d
theorem RepL.dp : ∀ (xs : List PV) (vs : List V), RepL C z H xs vs → PV.isdL xs = true → DpAll C.K H vs (PV.toDs xs)
  | [], _, h, _ => by cases h; exact .nil
  | x :: xs, _, h, d => by
    simp only [PV.isdL, Bool.and_eq_true] at d
    cases h with | cons a b => exact .cons (Rep.dp x _ a d.1) (RepL.dp xs _ b d.2)
end
theorem Top.dp {x : PV} {v : V} (h : Top C z H x v) (d : x.isd = true) : Dp C.K H v x.toD := by
  cases h with
  | of h => exact h.dp _ _ d
  | lst s r => exact .lst (SqL.of s) (r.dp _ _ d)
theorem Top.non {v : V} (h : Top C z H .non v) : v = .non := by cases h with | of h => cases h; rfl
theorem Top.bl {b : Bool} {v : V} (h : Top C z H (.bl b) v) : v = .bl b := by cases h with | of h => cases h; rfl
theorem Top.int {i : Int} {v : V} (h : Top C z H (.int i) v) : v = .int i := by cases h with | of h => cases h; rfl
theorem Top.str {i : Str} {v : V} (h : Top C z H (.str i) v) : v = .str i := by cases h with | of h => cases h; rfl
theorem Top.ty {i : String} {v : V} (h : Top C z H (.ty i) v) : v = .ty i := by cases h with | of h => cases h; rfl
theorem Top.tup {xs : List PV} {v : V} (h : Top C z H (.tup xs) v) : ∃ a vs, v = .ref a ∧ SqT C.K H a vs ∧ RepL C z H xs vs := by
  cases h with | of h => cases h with | tup s r => exact ⟨_, _, rfl, s, r⟩
theorem Top.lsts {xs : List PV} {v : V} (h : Top C z H (.lst xs) v) : ∃ a vs, v = .ref a ∧ H a = some (.lst vs) ∧ RepL C z H xs vs := by
  cases h with
  | of h => cases h with | lst s _ r => exact ⟨_, _, rfl, s, r⟩
  | lst s r => exact ⟨_, _, rfl, s, r⟩
theorem Top.frz {xs : List PV} {v : V} (h : Top C z H (.frz xs) v) : ∃ a vs, v = .ref a ∧ FrzL C.K H a vs ∧ RepL C z H xs vs := by
  cases h with | of h => cases h with | frz s r => exact ⟨_, _, rfl, s, r⟩
end
theorem line_eq : line = sizeLine := rfl

/-! ### the operators -/
section
variable {C : Ctx} {X : Cx}
/-- an operation's reading: what stands for the operands, what is answered -/
def rBin (C : Ctx) (op : Operator) : R2 := fun x y H Q => ∃ z u v r, Top C z H u x ∧ Top C z H v y ∧ binV op u v = some r ∧ ∀ w H', Ans C z H r w H' → Q w H'
theorem okMul_ok {i j : Int} (h : okMul i j = true) : IntMulOk i j := CMulW.ok (by unfold okMul at h; unfold CMulW; exact of_decide_eq_true h)
theorem bits_pow {i j : Int} (h0 : 0 ≤ j) (h : (((i.natAbs.log2 + 1 : Nat) : Int) * j ≤ 1000000)) : (Builtin.Int.intBits i : Int) * j ≤ 2 ^ 27 := by
  have b : Builtin.Int.intBits i ≤ i.natAbs.log2 + 1 := by
    unfold Builtin.Int.intBits
    split <;> omega
  have : (Builtin.Int.intBits i : Int) * j ≤ ((i.natAbs.log2 + 1 : Nat) : Int) * j := Int.mul_le_mul_of_nonneg_right (by omega) h0
  omega
theorem op_bin {op : Operator} (hK : X.K = C.K) : OpR X (binaryOp op) (rBin C op) := by
  intro pins s σ H x y v u Q I rx ry h
  obtain ⟨z, a, b, r, ta, tb, e, q⟩ := h
  have int2 : ∀ i j, a = .int i → b = .int j → ∃ k t t', binI op i j = some k ∧ v = .int i t ∧ u = .int j t' ∧ Q (.int k) H := by
    intro i j ea eb
    subst ea eb
    have e2 : (binI op i j).map (fun k => RV.val (.int k)) = some r := by cases op <;> exact e
    obtain ⟨k, e3, e4⟩ := Option.map_eq_some_iff.mp e2
    subst e4
    obtain rfl := ta.int
    obtain rfl := tb.int
    obtain ⟨t, rfl⟩ := rx
    obtain ⟨t', rfl⟩ := ry
    exact ⟨k, t, t', e3, rfl, rfl, q _ _ (.same (.int k))⟩
  cases a with
  | int i =>
    cases b with
    | int j =>
      obtain ⟨k, t, t', e1, rfl, rfl, q1⟩ := int2 i j rfl rfl
      cases op <;> simp only [binI, Option.some.injEq, reduceCtorEq] at e1
      · subst e1; exact add_int ⟨.int _, H, I.tok _, ⟨_, rfl⟩, q1⟩
      · subst e1; exact sub_int ⟨.int _, H, I.tok _, ⟨_, rfl⟩, q1⟩
      · split at e1
        · rename_i hm; cases e1; exact mul_int ⟨.int _, H, I.tok _, ⟨_, rfl⟩, q1⟩ (okMul_ok hm)
        · cases e1
      · split at e1
        · cases e1
        · cases e1; exact mod_int' (by assumption) ⟨.int _, H, I.tok _, ⟨_, rfl⟩, q1⟩
      · split at e1
        · rename_i hp
          simp only [Bool.and_eq_true, decide_eq_true_eq] at hp
          cases e1
          exact pow_int hp.1 (bits_pow hp.1 hp.2) ⟨.int _, H, I.tok _, ⟨_, rfl⟩, q1⟩
        · cases e1
      · split at e1
        · cases e1
        · split at e1
          · cases e1
          · rename_i h0 hp; cases e1
            exact floordiv_int h0 ⟨.int _, H, I.tok _, ⟨_, rfl⟩, q1⟩ (.inl (by simpa using hp))
    | _ => cases op <;> simp [binV] at e
  | str a =>
    cases b with
    | str b =>
      cases op <;> simp only [binV, reduceCtorEq] at e
      split at e
      · cases e
        obtain rfl := ta.str
        obtain rfl := tb.str
        exact op_add_str pins s σ H _ _ v u Q I rx ry ⟨a, b, rfl, rfl, by rw [← line_eq]; assumption, q _ _ (.same (.str _))⟩
      · cases e
    | _ => cases op <;> simp [binV] at e
  | tup xs =>
    obtain ⟨p, vs, rfl, sq, rp⟩ := ta.tup
    have sq' : SqT X.K H p vs := by rw [hK]; exact sq
    have l1 := rp.length
    cases b with
    | tup ys =>
      obtain ⟨p2, ws, rfl, sq2, rp2⟩ := tb.tup
      have sq2' : SqT X.K H p2 ws := by rw [hK]; exact sq2
      have l2 := rp2.length
      cases op <;> simp only [binV, reduceCtorEq] at e
      split at e
      · cases e
        refine op_catA pins s σ H _ _ v u Q I rx ry ⟨p, p2, vs, ws, rfl, rfl, sq', sq2', by rw [← line_eq, ← l1, ← l2]; assumption, fun e => ?_, fun e1 e2 => ?_, fun e1 e2 p3 n => ?_⟩
        · subst e; cases rp; exact q _ _ (.same (.tup sq2 rp2))
        · subst e2; cases rp2; rw [List.append_nil] at q; exact q _ _ (.same (.tup sq rp))
        · exact q _ _ (.tup n (rp.append rp2))
      · cases e
    | int k =>
      obtain rfl := tb.int
      cases op <;> simp only [binV, reduceCtorEq] at e
      split at e
      · rename_i hk
        cases e
        refine op_repT pins s σ H _ _ v u Q I rx ry ⟨p, k, vs, rfl, rfl, sq', fun e => ?_, hk.1, hk.2.1, by omega, fun p2 n => q _ _ (.tup n (rp.rep _))⟩
        subst e; simp only [List.length_nil] at l1; omega
      · cases e
    | _ => cases op <;> simp [binV] at e
  | lst xs =>
    obtain ⟨p, vs, rfl, sq, rp⟩ := ta.lsts
    have l1 := rp.length
    cases b with
    | lst ys =>
      obtain ⟨p2, ws, rfl, sq2, rp2⟩ := tb.lsts
      have l2 := rp2.length
      cases op <;> simp only [binV, reduceCtorEq] at e
      split at e
      · cases e
        exact op_cat pins s σ H _ _ v u Q I rx ry ⟨p, p2, vs, ws, rfl, rfl, sq, sq2, by rw [← line_eq, ← l1, ← l2]; assumption, fun p3 n => q _ _ (.lst n (rp.append rp2))⟩
      · cases e
    | int k =>
      obtain rfl := tb.int
      cases op <;> simp only [binV, reduceCtorEq] at e
      split at e
      · rename_i hk
        cases e
        refine op_rep pins s σ H _ _ v u Q I rx ry ⟨p, k, vs, rfl, rfl, sq, by omega, by omega, ?_, fun p2 n => q _ _ (.lst n (rp.rep _))⟩
        have : vs.length * k.toNat ≤ 1000 * 1000 := Nat.mul_le_mul (by omega) (by omega)
        have e2 : sizeLine = 16777216 := rfl
        omega
      · cases e
    | _ => cases op <;> simp [binV] at e
  | non => cases op <;> cases b <;> simp [binV] at e
  | frz _ => cases op <;> cases b <;> simp [binV] at e
  | bl _ => cases op <;> cases b <;> simp [binV] at e
  | ty _ => cases op <;> cases b <;> simp [binV] at e
  | fn _ => cases op <;> cases b <;> simp [binV] at e
end
end Mp

/-! MpW: subscripts, slices, comparisons, truth, built-ins by values. -/
namespace Mp
open PySem PySem.Spec PyProof.Rows L2

section
variable {C : Ctx} {z : As} {H : Hp}
theorem ixP_eq (n : Nat) (i : Int) : ixP n i = ixN n i := rfl
theorem at_rep {xs : List PV} {vs : List V} {i : Int} {x : PV} (r : RepL C z H xs vs) (e : atP xs i = some x) : ∃ v, atI vs i = some v ∧ Rep C z H x v := by
  unfold atP at e
  unfold atI
  rw [← r.length, ← ixP_eq]
  cases q : ixP xs.length i with
  | none => rw [q] at e; cases e
  | some j =>
    rw [q] at e
    obtain ⟨v, h1, h2⟩ := r.get e
    exact ⟨v, h1, h2⟩
theorem cut_rep {xs : List PV} {vs : List V} (lo hi : Option Int) (r : RepL C z H xs vs) : RepL C z H (cutP xs lo hi) (cutV vs lo hi) := by
  unfold cutP cutV
  rw [r.length]
  exact (r.drop _).take _
theorem cut_whole {xs : List PV} {lo hi : Option Int} (h : HT.sIx xs.length 0 lo = 0 ∧ HT.sIx xs.length xs.length hi = xs.length) : cutP xs lo hi = xs := by
  unfold cutP
  rw [h.1, h.2, List.drop_zero, Nat.sub_zero, List.take_length]
end
section
variable {C : Ctx} {X : Cx}
def rSub (C : Ctx) : R2 := fun x y H Q => ∃ z u v r, Top C z H u x ∧ Top C z H v y ∧ subV u v = some r ∧ ∀ w, Rep C z H r w → Q w H
theorem ix_sub (hK : X.K = C.K) : IxR X (rSub C) := by
  intro value slice pins s σ H x y v u Q I rx ry h hs
  obtain ⟨z, a, b, r, ta, tb, e, q⟩ := h
  cases b with
  | int i =>
    obtain rfl := tb.int
    cases a with
    | tup xs =>
      obtain ⟨p, vs, rfl, sq, rp⟩ := ta.tup
      obtain ⟨w, h1, h2⟩ := at_rep rp e
      exact ix_tup value slice pins s σ H _ _ v u Q I rx ry ⟨p, vs, i, w, rfl, rfl, by rw [hK]; exact sq, h1, q w h2⟩ hs
    | lst xs =>
      obtain ⟨p, vs, rfl, sq, rp⟩ := ta.lsts
      obtain ⟨w, h1, h2⟩ := at_rep rp e
      exact ix_list value slice pins s σ H _ _ v u Q I rx ry ⟨p, vs, i, w, rfl, rfl, .of sq, h1, q w h2⟩ hs
    | frz xs =>
      obtain ⟨p, vs, rfl, sq, rp⟩ := ta.frz
      obtain ⟨w, h1, h2⟩ := at_rep rp e
      exact ix_list value slice pins s σ H _ _ v u Q I rx ry ⟨p, vs, i, w, rfl, rfl, by rw [hK]; exact sq.sql, h1, q w h2⟩ hs
    | str t =>
      obtain rfl := ta.str
      unfold subV at e
      dsimp only at e
      split at e
      · rename_i hl
        obtain ⟨c, e1, e2⟩ := Option.map_eq_some_iff.mp e
        subst e2
        have e3 : atI t.cps.toList i = some c := by
          unfold atP at e1
          unfold atI
          rw [← ixP_eq]
          cases g : ixP t.cps.toList.length i with
          | none => rw [g] at e1; cases e1
          | some j => rw [g] at e1; exact e1
        exact ix_str value slice pins s σ H _ _ v u Q I rx ry ⟨t, i, c, rfl, rfl, hl, e3, q _ (.str _)⟩ hs
      · cases e
    | _ => simp [subV] at e
  | _ => cases a <;> simp [subV] at e
def rSlc (C : Ctx) : V → Option Int → Option Int → Hp → VK → Prop := fun x lo hi H Q => ∃ z u r, Top C z H u x ∧ slcV u lo hi = some r ∧ ∀ w H', Ans C z H r w H' → Q w H'
theorem sl_slc (hK : X.K = C.K) : SlR X (rSlc C) := by
  intro pins s σ H x v vl vu lo hi sl Q I rx hs pl pu h
  obtain ⟨z, a, r, ta, e, q⟩ := h
  cases a with
  | tup xs =>
    obtain ⟨p, vs, rfl, sq, rp⟩ := ta.tup
    cases e
    refine sl_tupA pins s σ H _ v vl vu lo hi sl Q I rx hs pl pu ⟨p, vs, rfl, by rw [hK]; exact sq, fun hw => ?_, fun hw p2 n => q _ _ (.tup n (cut_rep lo hi rp))⟩
    rw [← rp.length] at hw
    rw [cut_whole hw] at q
    exact q _ _ (.same (.tup sq rp))
  | lst xs =>
    obtain ⟨p, vs, rfl, sq, rp⟩ := ta.lsts
    cases e
    exact sl_list pins s σ H _ v vl vu lo hi sl Q I rx hs pl pu ⟨p, vs, rfl, .of sq, fun p2 n => q _ _ (.lst n (cut_rep lo hi rp))⟩
  | _ => simp [slcV] at e
/-! ### comparisons -/
def rCmp (C : Ctx) (op : CmpOp) : R2 := fun x y H Q => ∃ z u v b, Top C z H u x ∧ Top C z H v y ∧ cmpV op u v = some b ∧ Q (.bl b) H
theorem mem_any (d : PV) (hd : d.isd = true) : ∀ (xs : List PV), PV.isdL xs = true → ((PV.toDs xs).any fun y => PyData.eqv y d.toD) = memV d xs
  | [], _ => rfl
  | x :: xs, h => by
    simp only [PV.isdL, Bool.and_eq_true] at h
    simp only [PV.toDs, List.any_cons, memV]
    rw [eqv_toD x d h.1 hd, mem_any d hd xs h.2]
    cases PV.eqv x d <;> rfl
theorem room_in {A : Around} {d : PyData} {n m : Nat} (h : d.depth ≤ 20) (hu : A.units + 65 < cLine) : A.units + 1 + min m d.depth < cLine := by
  have : min m d.depth ≤ d.depth := Nat.min_le_right _ _
  omega
theorem in_all {op : CmpOp} (hK : X.K = C.K) (hu : X.A.units + 65 < cLine) (ho : op = .In ∨ op = .NotIn) {pins : List (Addr × Obj)} {s : Shared} {σ : L2.St} {H : Hp} {x y : V} {v u : Value} {Q : VK} {z : As} {a b : PV} {k : Bool} (I : Inv X pins σ H s) (rx : RelV x v) (ry : RelV y u)
    (ta : Top C z H a x) (tb : Top C z H b y) (e : inV a b = some k) (q : Q (.bl (if op = .In then k else !k)) H) : wpAny (model X.prog X.w) X.A (compareOp op v u) (EP X pins σ Q) X.xe s := by
  have key : ∀ (d : PyData) (ys : List PV), (b = .lst ys ∧ d = .list (PV.toDs ys) ∨ b = .tup ys ∧ d = .tuple (PV.toDs ys)) → a.dat 20 = true → PV.datL 20 ys = true → memV a ys = k →
      wpAny (model X.prog X.w) X.A (compareOp op v u) (EP X pins σ Q) X.xe s := by
    intro d ys hb h1 h2 hk
    have ia := isd_of h1
    have iys : PV.isdL ys = true := by unfold PV.datL at h2; exact (Bool.and_eq_true_iff.mp h2).1
    obtain ⟨as, r1⟩ := Dp.reads I a.toD x v (by rw [hK]; exact ta.dp ia) rx
    have hd2 : Dp X.K H y d := by
      rw [hK]
      rcases hb with ⟨rfl, rfl⟩ | ⟨rfl, rfl⟩
      · exact tb.dp (x := .lst ys) iys
      · exact tb.dp (x := .tup ys) iys
    obtain ⟨bs, r2⟩ := Dp.reads I d y u hd2 ry
    have hm := mem_any a ia ys iys
    rw [hk] at hm
    have da : a.toD.depth ≤ 20 := by
      rw [dep_toD]
      unfold PV.dat at h1
      exact of_decide_eq_true (Bool.and_eq_true_iff.mp h1).2
    have rm := room_in (A := X.A) (n := 0) (m := PyData.depthAll (PV.toDs ys)) da hu
    rcases hb with ⟨rfl, rfl⟩ | ⟨rfl, rfl⟩ <;> rcases ho with rfl | rfl
    · exact SeqAt.in_list_reads r2 r1 (canLay_toDs ys iys) (canLay_toD a ia) rm ⟨.bl k, H, I, by rw [hm]; rfl, q⟩
    · exact SeqAt.notIn_list_reads r2 r1 (canLay_toDs ys iys) (canLay_toD a ia) rm ⟨.bl (!k), H, I, by rw [hm]; rfl, q⟩
    · exact SeqAt.in_tuple_reads r2 r1 (canLay_toDs ys iys) (canLay_toD a ia) rm ⟨.bl k, H, I, by rw [hm]; rfl, q⟩
    · exact SeqAt.notIn_tuple_reads r2 r1 (canLay_toDs ys iys) (canLay_toD a ia) rm ⟨.bl (!k), H, I, by rw [hm]; rfl, q⟩
  cases b with
  | lst ys =>
    simp only [inV] at e
    split at e
    · rename_i hc
      rw [Bool.and_eq_true] at hc
      exact key _ ys (.inl ⟨rfl, rfl⟩) hc.1 hc.2 (Option.some.inj e)
    · cases e
  | tup ys =>
    simp only [inV] at e
    split at e
    · rename_i hc
      rw [Bool.and_eq_true] at hc
      exact key _ ys (.inr ⟨rfl, rfl⟩) hc.1 hc.2 (Option.some.inj e)
    · cases e
  | _ => simp [inV] at e
theorem top_not_none {z : As} {H : Hp} {a : PV} {x : V} (ta : Top C z H a x) (gv : ∀ g v, C.gv g = some v → ∃ f, v = .ref f) : decide (x = V.non) = a.isN := by
  cases ta with
  | of h =>
    cases h with
    | fn e => obtain ⟨f, rfl⟩ := gv _ _ e; rfl
    | _ => rfl
  | lst => rfl
theorem strs_of {x y : PV} {a b : Str} (h : strs? x y = some (a, b)) : x = .str a ∧ y = .str b := by
  cases x <;> cases y <;> simp_all [strs?]
theorem op_cmp {op : CmpOp} (hK : X.K = C.K) (hu : X.A.units + 65 < cLine) (gv : ∀ g v, C.gv g = some v → ∃ f, v = .ref f) : OpR X (compareOp op) (rCmp C op) := by
  intro pins s σ H x y v u Q I rx ry h
  obtain ⟨z, a, b, k, ta, tb, e, q⟩ := h
  have hu' : X.A.units + 64 < cLine := by omega
  cases op with
  | Eq =>
    simp only [cmpV] at e
    split at e
    · rename_i s t hs
      obtain ⟨rfl, rfl⟩ := strs_of hs
      obtain rfl := ta.str; obtain rfl := tb.str
      cases e
      refine op_eq pins _ σ H _ _ v u Q I rx ry ⟨rfl, ?_⟩
      simpa using q
    split at e
    · rename_i hc
      rw [Bool.and_eq_true] at hc
      refine op_eqD hu' pins s σ H x y v u Q I rx ry ⟨a.toD, b.toD, by rw [hK]; exact ta.dp (isd_of hc.1), by rw [hK]; exact tb.dp (isd_of hc.2), shaped_of hc.1 (by omega), shaped_of hc.2 (by omega), ?_⟩
      rw [eqv_toD a b (isd_of hc.1) (isd_of hc.2), Option.some.inj e]; exact q
    · cases e
  | NotEq =>
    simp only [cmpV] at e
    split at e
    · rename_i s t hs
      obtain ⟨rfl, rfl⟩ := strs_of hs
      obtain rfl := ta.str; obtain rfl := tb.str
      cases e
      refine op_ne pins _ σ H _ _ v u Q I rx ry ⟨rfl, ?_⟩
      simpa using q
    split at e
    · rename_i hc
      rw [Bool.and_eq_true] at hc
      refine op_neD hu' pins s σ H x y v u Q I rx ry ⟨a.toD, b.toD, by rw [hK]; exact ta.dp (isd_of hc.1), by rw [hK]; exact tb.dp (isd_of hc.2), shaped_of hc.1 (by omega), shaped_of hc.2 (by omega), ?_⟩
      rw [eqv_toD a b (isd_of hc.1) (isd_of hc.2), Option.some.inj e]; exact q
    · cases e
  | Is =>
    cases b <;> simp only [cmpV, reduceCtorEq] at e
    obtain rfl := tb.non
    refine op_isN pins s σ H x _ v u Q I rx ry ⟨rfl, ?_⟩
    rw [top_not_none ta gv, Option.some.inj e]; exact q
  | IsNot =>
    cases b <;> simp only [cmpV, reduceCtorEq] at e
    obtain rfl := tb.non
    refine op_notN pins s σ H x _ v u Q I rx ry ⟨rfl, ?_⟩
    rw [top_not_none ta gv, Option.some.inj e]; exact q
  | In => exact in_all hK hu (.inl rfl) I rx ry ta tb e q
  | NotIn =>
    simp only [cmpV, Option.map_eq_some_iff] at e
    obtain ⟨k', e1, e2⟩ := e
    subst e2
    exact in_all hK hu (.inr rfl) I rx ry ta tb e1 q
  | Lt =>
    cases a <;> cases b <;> simp only [cmpV, reduceCtorEq, Option.some.injEq] at e
    subst e; obtain rfl := ta.int; obtain rfl := tb.int
    exact op_lt pins s σ H _ _ v u Q I rx ry ⟨_, _, rfl, rfl, q⟩
  | LtE =>
    cases a <;> cases b <;> simp only [cmpV, reduceCtorEq, Option.some.injEq] at e
    subst e; obtain rfl := ta.int; obtain rfl := tb.int
    exact op_le pins s σ H _ _ v u Q I rx ry ⟨_, _, rfl, rfl, q⟩
  | Gt =>
    cases a <;> cases b <;> simp only [cmpV, reduceCtorEq, Option.some.injEq] at e
    subst e; obtain rfl := ta.int; obtain rfl := tb.int
    exact op_gt pins s σ H _ _ v u Q I rx ry ⟨_, _, rfl, rfl, q⟩
  | GtE =>
    cases a <;> cases b <;> simp only [cmpV, reduceCtorEq, Option.some.injEq] at e
    subst e; obtain rfl := ta.int; obtain rfl := tb.int
    exact op_ge pins s σ H _ _ v u Q I rx ry ⟨_, _, rfl, rfl, q⟩
theorem tru_of {z : As} {H : Hp} {a : PV} {x : V} {k : Bool} (ta : Top C z H a x) (e : truV a = some k) : TruV C.K x H k := by
  cases a with
  | non => obtain rfl := ta.non; cases e; rfl
  | bl b => obtain rfl := ta.bl; cases e; rfl
  | int i => obtain rfl := ta.int; cases e; rfl
  | str t =>
    obtain rfl := ta.str
    simp only [truV] at e
    split at e
    · rename_i hl; cases e
      refine ⟨hl, ?_⟩
      by_cases h0 : t.length = 0
      · simp [h0]
      · have : ((t.length : Int) != 0) = true := by simp; omega
        rw [this]; simp [h0]
    · cases e
  | tup xs =>
    obtain ⟨p, vs, rfl, sq, rp⟩ := ta.tup
    cases e
    refine .inr (.inl ⟨vs, sq, ?_⟩)
    have := rp.length
    cases xs <;> cases vs <;> simp at this ⊢
  | lst xs =>
    obtain ⟨p, vs, rfl, sq, rp⟩ := ta.lsts
    cases e
    refine .inl ⟨vs, .of sq, ?_⟩
    have := rp.length
    cases xs <;> cases vs <;> simp at this ⊢
  | _ => simp [truV] at e
end
end Mp

/-! MpB: built-ins by values; what loops walk. -/
namespace Mp
open PySem PySem.Spec PyProof.Rows L2

def biName : Bi → Str
  | .len => "len" | .abs => "abs" | .int => "int" | .max => "max" | .min => "min" | .tuple => "tuple" | .list => "list" | .all => "all" | .any => "any" | .repr => "repr" | .sum => "sum" | .isi => "isinstance"
def biVal : Bi → Value
  | .len => .builtin "len" | .abs => .builtin "abs" | .int => .type "int" | .max => .builtin "max" | .min => .builtin "min" | .tuple => .type "tuple" | .list => .type "list" | .all => .builtin "all" | .any => .builtin "any" | .repr => .builtin "repr" | .sum => .builtin "sum" | .isi => .builtin "isinstance"
theorem bi_boot : ∀ b, bootBuiltins (biName b) = some (biVal b)
  | .len => by decide +kernel
  | .abs => by decide +kernel
  | .int => by decide +kernel
  | .max => by decide +kernel
  | .min => by decide +kernel
  | .tuple => by decide +kernel
  | .list => by decide +kernel
  | .all => by decide +kernel
  | .any => by decide +kernel
  | .repr => by decide +kernel
  | .sum => by decide +kernel
  | .isi => by decide +kernel
section
variable {C : Ctx} {X : Cx} {z : As} {H : Hp}
def rBi (C : Ctx) (b : Bi) : List V → Hp → VK → Prop := fun xs H Q => ∃ z us r, TopL C z H us xs ∧ biV b us = some r ∧ ∀ w H', Ans C z H r w H' → Q w H'
theorem TopL.one {x : PV} {vs : List V} (h : TopL C z H [x] vs) : ∃ v, vs = [v] ∧ Top C z H x v := by
  cases h with | cons a b => cases b; exact ⟨_, rfl, a⟩
theorem TopL.two {x y : PV} {vs : List V} (h : TopL C z H [x, y] vs) : ∃ v w, vs = [v, w] ∧ Top C z H x v ∧ Top C z H y w := by
  cases h with | cons a b => cases b with | cons c d => cases d; exact ⟨_, _, rfl, a, c⟩
theorem bools_rep : ∀ {xs : List PV} {bs : List Bool} {vs : List V}, bools xs = some bs → RepL C z H xs vs → vs = bs.map V.bl
  | [], bs, vs, e, r => by cases r; cases e; rfl
  | x :: xs, bs, vs, e, r => by
    cases x with
    | bl b =>
      unfold bools at e
      cases q : bools xs with
      | none => rw [q] at e; cases e
      | some l =>
        rw [q] at e
        cases e
        cases r with
        | cons a r => cases a; rw [bools_rep q r]; rfl
    | _ => simp [bools] at e
theorem ints_rep : ∀ {xs : List PV} {bs : List Int} {vs : List V}, intsOf xs = some bs → RepL C z H xs vs → vs = bs.map V.int
  | [], bs, vs, e, r => by cases r; cases e; rfl
  | x :: xs, bs, vs, e, r => by
    cases x with
    | int b =>
      unfold intsOf at e
      cases q : intsOf xs with
      | none => rw [q] at e; cases e
      | some l =>
        rw [q] at e
        cases e
        cases r with
        | cons a r => cases a; rw [ints_rep q r]; rfl
    | _ => simp [intsOf] at e
def tyName : PV → String
  | .non => "NoneType"
  | .bl _ => "bool"
  | .int _ => "int"
  | .str _ => "str"
  | .tup _ => "tuple"
  | .lst _ => "list"
  | .ty _ => ""
  | .fn _ => ""
  | .frz _ => ""
theorem tyX_sq {a : Addr} {vs : List V} {K : PySem.W.Frag} (s : SqT K H a vs) : TyX K H (.ref a) (.type "tuple") := by
  rcases s with (s | ⟨o, s⟩) | ⟨o, its, n, h1, h2, _⟩
  · exact .base (.tup s)
  · exact .fTuple s
  · exact .kTuple h1 h2
theorem tyX_of {x : PV} {v : V} (t : Top C z H x v) (h : tyName x ≠ "") : TyX C.K H v (.type (tyName x)) := by
  cases x with
  | non => obtain rfl := t.non; exact .base .non
  | bl b => obtain rfl := t.bl; exact .base (.bl _)
  | int i => obtain rfl := t.int; exact .base (.int _)
  | str s => obtain rfl := t.str; exact .base (.str _)
  | tup xs => obtain ⟨a, vs, rfl, s, _⟩ := t.tup; exact tyX_sq s
  | lst xs => obtain ⟨a, vs, rfl, s, _⟩ := t.lsts; exact .base (.lst s)
  | ty n => exact absurd rfl h
  | fn g => exact absurd rfl h
  | frz g => exact absurd rfl h
def isiN (t n : String) : Option Bool :=
  if t = "" then none
  else if n = "int" then some (t = "int" || t = "bool")
  else if n = "bool" || n = "str" || n = "tuple" || n = "list" || n = "dict" then some (decide (t = n)) else none
theorem isiV_eq (x : PV) (n : String) : isiV x n = isiN (tyName x) n := by cases x <;> rfl
theorem isi_kit {x : PV} {n : String} {b : Bool} (h : isiN (tyName x) n = some b) : kitB (tyName x) n = some b := by
  have key : ∀ t : String, t ∈ ["NoneType", "bool", "int", "str", "tuple", "list"] → ∀ n : String, n ∈ ["int", "bool", "str", "tuple", "list", "dict"] → isiN t n = kitB t n := by decide +kernel
  have hn : n ∈ ["int", "bool", "str", "tuple", "list", "dict"] := by
    unfold isiN at h
    split at h
    · cases h
    · split at h
      · rename_i e; subst e; decide
      · split at h
        · rename_i e
          simp only [Bool.or_eq_true, decide_eq_true_eq] at e
          rcases e with (((e | e) | e) | e) | e <;> subst e <;> decide
        · cases h
  have ht : tyName x ≠ "" := fun e => by rw [e] at h; simp [isiN] at h
  rw [← key (tyName x) (by cases x <;> first | (simp [tyName]; done) | exact absurd rfl ht) n hn]
  exact h
theorem call_bi {b : Bi} (hK : X.K = C.K) (hc : X.calm = true) (hg : X.A.guards = some []) (hu : X.A.units + 65 < cLine) : CallR X (biVal b) (rBi C b) := by
  intro pins s σ H xs us Q I r h
  obtain ⟨z, ps, res, tl, e, q⟩ := h
  cases b with
  | len =>
    match ps, tl, e with
    | [.tup l], tl, e =>
      cases e
      obtain ⟨v, rfl, t⟩ := tl.one
      obtain ⟨a, vs, rfl, sq, rp⟩ := t.tup
      exact call_len pins s σ H _ us Q I r ⟨_, l.length, rfl, .inr ⟨vs, by rw [hK]; exact sq, rp.length⟩, q _ _ (.same (.int _))⟩
    | [.lst l], tl, e =>
      cases e
      obtain ⟨v, rfl, t⟩ := tl.one
      obtain ⟨a, vs, rfl, sq, rp⟩ := t.lsts
      exact call_len pins s σ H _ us Q I r ⟨_, l.length, rfl, .inl ⟨vs, .of sq, rp.length⟩, q _ _ (.same (.int _))⟩
    | [.frz l], tl, e =>
      cases e
      obtain ⟨v, rfl, t⟩ := tl.one
      obtain ⟨a, vs, rfl, sq, rp⟩ := t.frz
      exact call_len pins s σ H _ us Q I r ⟨_, l.length, rfl, .inl ⟨vs, by rw [hK]; exact sq.sql, rp.length⟩, q _ _ (.same (.int _))⟩
    | [.str l], tl, e =>
      simp only [biV] at e
      split at e
      · rename_i hl
        cases e
        obtain ⟨v, rfl, t⟩ := tl.one
        obtain rfl := t.str
        exact call_len pins s σ H _ us Q I r ⟨_, l.length, rfl, ⟨hl, rfl⟩, q _ _ (.same (.int _))⟩
      · cases e
  | abs =>
    match ps, tl, e with
    | [.int i], tl, e =>
      cases e
      obtain ⟨v, rfl, t⟩ := tl.one
      obtain rfl := t.int
      exact call_abs pins s σ H _ us Q I r ⟨i, rfl, q _ _ (.same (.int _))⟩
  | int =>
    match ps, tl, e with
    | [.int i], tl, e =>
      cases e
      obtain ⟨v, rfl, t⟩ := tl.one
      obtain rfl := t.int
      exact call_int1 pins s σ H _ us Q I r (.inl ⟨i, rfl, q _ _ (.same (.int _))⟩)
    | [.bl i], tl, e =>
      cases e
      obtain ⟨v, rfl, t⟩ := tl.one
      obtain rfl := t.bl
      exact call_int1 pins s σ H _ us Q I r (.inr ⟨i, rfl, q _ _ (.same (.int _))⟩)
  | max =>
    match ps, tl, e with
    | [.int i, .int j], tl, e =>
      cases e
      obtain ⟨v, w, rfl, t, t2⟩ := tl.two
      obtain rfl := t.int
      obtain rfl := t2.int
      exact call_max2 hc pins s σ H _ us Q I r ⟨i, j, rfl, q _ _ (.same (.int _))⟩
  | min =>
    match ps, tl, e with
    | [.int i, .int j], tl, e =>
      cases e
      obtain ⟨v, w, rfl, t, t2⟩ := tl.two
      obtain rfl := t.int
      obtain rfl := t2.int
      exact call_min2 hc pins s σ H _ us Q I r ⟨i, j, rfl, q _ _ (.same (.int _))⟩
  | tuple =>
    match ps, tl, e with
    | [.tup l], tl, e =>
      cases e
      obtain ⟨v, rfl, t⟩ := tl.one
      obtain ⟨a, vs, rfl, sq, rp⟩ := t.tup
      exact call_tuple_of pins s σ H _ us Q I r ⟨a, vs, rfl, .inr ⟨by rw [hK]; exact sq, q _ _ (.same (.tup sq rp))⟩⟩
    | [.lst l], tl, e =>
      cases e
      obtain ⟨v, rfl, t⟩ := tl.one
      obtain ⟨a, vs, rfl, sq, rp⟩ := t.lsts
      exact call_tuple_of pins s σ H _ us Q I r ⟨a, vs, rfl, .inl ⟨.of sq, fun p n => q _ _ (.tup n rp)⟩⟩
  | list =>
    match ps, tl, e with
    | [.tup l], tl, e =>
      cases e
      obtain ⟨v, rfl, t⟩ := tl.one
      obtain ⟨a, vs, rfl, sq, rp⟩ := t.tup
      exact call_list_of pins s σ H _ us Q I r ⟨a, vs, rfl, .inr (by rw [hK]; exact sq), fun p n => q _ _ (.lst n rp)⟩
    | [.lst l], tl, e =>
      cases e
      obtain ⟨v, rfl, t⟩ := tl.one
      obtain ⟨a, vs, rfl, sq, rp⟩ := t.lsts
      exact call_list_of pins s σ H _ us Q I r ⟨a, vs, rfl, .inl (.of sq), fun p n => q _ _ (.lst n rp)⟩
  | all =>
    match ps, tl, e with
    | [.lst l], tl, e =>
      simp only [biV] at e
      split at e
      · rename_i bs hb
        cases e
        obtain ⟨v, rfl, t⟩ := tl.one
        obtain ⟨a, vs, rfl, sq, rp⟩ := t.lsts
        exact cr_all hc pins s σ H _ us Q I r ⟨a, bs, rfl, by rw [← bools_rep hb rp]; exact .of sq, q _ _ (.same (.bl _))⟩
      · cases e
  | any =>
    match ps, tl, e with
    | [.lst l], tl, e =>
      simp only [biV] at e
      split at e
      · rename_i bs hb
        cases e
        obtain ⟨v, rfl, t⟩ := tl.one
        obtain ⟨a, vs, rfl, sq, rp⟩ := t.lsts
        exact cr_any hc pins s σ H _ us Q I r ⟨a, bs, rfl, by rw [← bools_rep hb rp]; exact .of sq, q _ _ (.same (.bl _))⟩
      · cases e
  | sum =>
    match ps, tl, e with
    | [.lst l], tl, e =>
      simp only [biV] at e
      split at e
      · rename_i bs hb
        cases e
        obtain ⟨v, rfl, t⟩ := tl.one
        obtain ⟨a, vs, rfl, sq, rp⟩ := t.lsts
        exact cr_sum hc pins s σ H _ us Q I r ⟨a, bs, rfl, by rw [← ints_rep hb rp]; exact .of sq, q _ _ (.same (.int _))⟩
      · cases e
  | repr =>
    match ps, tl, e with
    | [x], tl, e =>
      simp only [biV] at e
      split at e
      · rename_i hc2
        simp only [Bool.and_eq_true, decide_eq_true_eq] at hc2
        cases e
        obtain ⟨v, rfl, t⟩ := tl.one
        obtain ⟨u, rfl, ru⟩ := vals1 r
        have q := q _ _ (.same (.str _))
        have dp : Dp X.K H v x.toD := by rw [hK]; exact t.dp (isd_of hc2.1.1)
        obtain ⟨as, rd⟩ := Dp.reads I _ v u dp ru
        have hd : x.dep ≤ 20 := by
          have := hc2.1.1
          unfold PV.dat at this
          exact of_decide_eq_true (Bool.and_eq_true_iff.mp this).2
        have fin : ∀ (h' : Heap) (w : Tok) (tk : Nat), (∀ b o, s.heap.get? b = some o → h'.get? b = some o) → EP X pins σ Q (.str x.toD.shown w) { s with heap := h', toks := tk } := fun h' w tk hk => ⟨.str x.toD.shown, H, I.kept (t' := tk) hk, ⟨_, rfl⟩, q⟩
        have ref : ∀ a, u = .ref a → wpAny (model X.prog X.w) X.A (call (.builtin "repr") [u]) (EP X pins σ Q) X.xe s := by
          rintro a rfl
          refine PySem.repr_of_reads' rd hc2.1.2 (PyData.noDict_hsm (PyData.hasDict_of_canLay _ (canLay_toD x (isd_of hc2.1.1)))) hg ?_ (fun _ _ e => e) (fun h' w tk hk => fin h' w tk hk) hc2.2
          rw [dep_toD]; omega
        cases x with
        | non =>
          obtain rfl := t.non; cases ru
          exact PySem.P.repr_of_none (fin s.heap _ _ fun _ _ e => e)
        | bl b =>
          obtain rfl := t.bl; cases ru
          exact PySem.P.repr_of_bool (fin s.heap _ _ fun _ _ e => e)
        | int i =>
          obtain rfl := t.int; obtain ⟨tk, rfl⟩ := ru
          exact PySem.P.repr_of_int (by simpa [PV.toD, PyData.showable] using hc2.1.2) (fin s.heap _ _ fun _ _ e => e)
        | str i =>
          obtain rfl := t.str; obtain ⟨tk, rfl⟩ := ru
          exact PySem.P.repr_of_str (fin s.heap _ _ fun _ _ e => e) hc2.2
        | tup l => obtain ⟨a, vs, rfl, _, _⟩ := t.tup; cases ru; exact ref a rfl
        | lst l => obtain ⟨a, vs, rfl, _, _⟩ := t.lsts; cases ru; exact ref a rfl
        | ty n => simp [PV.dat, PV.isd] at hc2
        | fn n => simp [PV.dat, PV.isd] at hc2
        | frz n => simp [PV.dat, PV.isd] at hc2
      · cases e
  | isi =>
    match ps, tl, e with
    | [x, .ty n], tl, e =>
      simp only [biV] at e
      split at e
      · rename_i b hb
        cases e
        obtain ⟨v, w, rfl, t, t2⟩ := tl.two
        obtain rfl := t2.ty
        rw [isiV_eq] at hb
        have ht : tyName x ≠ "" := fun e => by rw [e] at hb; simp [isiN] at hb
        exact call_isi pins s σ H _ us Q I r ⟨v, .ty n, .type (tyName x), .type n, b, rfl, .ty n, by rw [hK]; exact tyX_of t ht, kit_ty (isi_kit hb), q _ _ (.same (.bl _))⟩
      · cases e
end
end Mp

/-! MpI: what loops walk. -/
namespace Mp
open PySem PySem.Spec PyProof.Rows L2 RZ

/-- a walk yields the trees xs, while G stands -/
structure Walks (C : Ctx) (J : It) (xs : List PV) (G : As → Hp → Prop) : Prop where
  go : ∀ i x z H, xs[i]? = some x → G z H → J.go i H
  yld : ∀ i x z H v H', xs[i]? = some x → G z H → J.yld i H v H' → (∀ a o, H a = some o → H' a = some o) ∧ Rep C z H' x v
  stop : ∀ i z H, xs.length ≤ i → G z H → J.stop i H
  stay : ∀ M z H z' H', G z H → Stp M z H z' H' → MOk M z H → G z' H'
section
variable {C : Ctx} {z z' : As} {H H' : Hp}
def GT (C : Ctx) (a : Addr) (xs : List PV) (vs : List V) : As → Hp → Prop := fun z H => SqT C.K H a vs ∧ RepL C z H xs vs
def GL (C : Ctx) (a : Addr) (xs : List PV) (vs : List V) : As → Hp → Prop := fun z H => H a = some (.lst vs) ∧ ¬ z a ∧ RepL C z H xs vs
theorem GT.stay {a : Addr} {xs : List PV} {vs : List V} {M : As} (g : GT C a xs vs z H) (s : Stp M z H z' H') (m : MOk M z H) : GT C a xs vs z' H' := ⟨SqT.keep s.keep m.wrt g.1, g.2.step s m⟩
theorem GL.stay {a : Addr} {xs : List PV} {vs : List V} {M : As} (g : GL C a xs vs z H) (s : Stp M z H z' H') (m : MOk M z H) : GL C a xs vs z' H' :=
  ⟨s.keep _ _ g.1 fun q => g.2.1 (m.sub _ q), fun (q : z' a) => (s.new _ q).elim g.2.1 fun (q : H a = none) => (by rw [g.1] at q; cases q), g.2.2.step s m⟩
theorem walks_tup {a : Addr} {xs : List PV} {vs : List V} : Walks C (Itt C.K a) xs (GT C a xs vs) where
  go := fun i x z H e g => by
    obtain ⟨v, h1, _⟩ := g.2.get e
    exact ⟨vs, v, g.1, h1⟩
  yld := fun i x z H v H' e g y => by
    obtain ⟨rfl, y⟩ := y
    obtain ⟨w, h1, h2⟩ := g.2.get e
    have := y vs g.1
    rw [h1] at this; cases this
    exact ⟨fun _ _ e => e, h2⟩
  stop := fun i z H h g => ⟨vs, g.1, by rw [← g.2.length]; exact h⟩
  stay := fun M z H z' H' g s m => g.stay s m
theorem walks_lst {a : Addr} {xs : List PV} {vs : List V} : Walks C (Itl C.K a) xs (GL C a xs vs) where
  go := fun i x z H e g => by
    obtain ⟨v, h1, _⟩ := g.2.2.get e
    exact ⟨vs, v, .of g.1, h1⟩
  yld := fun i x z H v H' e g y => by
    obtain ⟨rfl, y⟩ := y
    obtain ⟨w, h1, h2⟩ := g.2.2.get e
    have := y vs (.of g.1)
    rw [h1] at this; cases this
    exact ⟨fun _ _ e => e, h2⟩
  stop := fun i z H h g => ⟨vs, .of g.1, by rw [← g.2.2.length]; exact h⟩
  stay := fun M z H z' H' g s m => g.stay s m
theorem walks_rng {lo : Int} {n : Nat} : Walks C (Itr lo n) ((List.range n).map fun (k : Nat) => PV.int (lo + k)) (fun _ _ => True) where
  go := fun i x z H e g => by
    have := (List.getElem?_eq_some_iff.mp e).1
    show i < n
    simpa using this
  yld := fun i x z H v H' e g y => by
    obtain ⟨rfl, rfl⟩ := y
    have hi := (List.getElem?_eq_some_iff.mp e).1
    simp only [List.length_map, List.length_range] at hi
    rw [List.getElem?_map, List.getElem?_range hi] at e
    cases e
    exact ⟨fun _ _ e => e, .int _⟩
  stop := fun i z H h g => by
    show n ≤ i
    simpa using h
  stay := fun _ _ _ _ _ _ _ _ => trivial
theorem zip_get {xs ys : List PV} {i : Nat} {x : PV} (e : (List.zipWith (fun x y => PV.tup [x, y]) xs ys)[i]? = some x) : ∃ u v, xs[i]? = some u ∧ ys[i]? = some v ∧ x = .tup [u, v] := by
  rw [List.getElem?_zipWith] at e
  cases h1 : xs[i]? with
  | none => rw [h1] at e; cases e
  | some u =>
    cases h2 : ys[i]? with
    | none => rw [h1, h2] at e; cases e
    | some v => rw [h1, h2] at e; cases e; exact ⟨u, v, rfl, rfl, rfl⟩
theorem tup2_rep {T : Addr} {x y : PV} {v w : V} (n : H T = none) (a : Rep C z H x v) (b : Rep C z H y w) : Rep C z (upd H T (.tup [v, w])) (.tup [x, y]) (.ref T) :=
  .tup (.of upd_same) (.cons (a.ext (upd_keep n)) (.cons (b.ext (upd_keep n)) .nil))
theorem walks_zipT {a b : Addr} {xs ys : List PV} {vs ws : List V} : Walks C (ItzT C.K a b) (List.zipWith (fun x y => PV.tup [x, y]) xs ys) (fun z H => GT C a xs vs z H ∧ GT C b ys ws z H) where
  go := fun i x z H e g => by
    obtain ⟨u, v, e1, e2, rfl⟩ := zip_get e
    obtain ⟨u', h1, _⟩ := g.1.2.get e1
    obtain ⟨v', h2, _⟩ := g.2.2.get e2
    exact ⟨vs, ws, u', v', g.1.1, g.2.1, h1, h2⟩
  yld := fun i x z H v H' e g y => by
    obtain ⟨u, w, e1, e2, rfl⟩ := zip_get e
    obtain ⟨T, x, y', rfl, n, rfl, y1, y2⟩ := y
    obtain ⟨u', h1, r1⟩ := g.1.2.get e1
    obtain ⟨v', h2, r2⟩ := g.2.2.get e2
    have q1 := y1 vs g.1.1
    have q2 := y2 ws g.2.1
    rw [h1] at q1; cases q1
    rw [h2] at q2; cases q2
    exact ⟨upd_keep n, tup2_rep n r1 r2⟩
  stop := fun i z H h g => by
    refine ⟨vs, ws, g.1.1, g.2.1, ?_⟩
    rw [← g.1.2.length, ← g.2.2.length]
    rw [List.length_zipWith] at h
    omega
  stay := fun M z H z' H' g s m => ⟨g.1.stay s m, g.2.stay s m⟩
theorem walks_zipL {a b : Addr} {xs ys : List PV} {vs ws : List V} : Walks C (Itz C.K a b) (List.zipWith (fun x y => PV.tup [x, y]) xs ys) (fun z H => GL C a xs vs z H ∧ GL C b ys ws z H) where
  go := fun i x z H e g => by
    obtain ⟨u, v, e1, e2, rfl⟩ := zip_get e
    obtain ⟨u', h1, _⟩ := g.1.2.2.get e1
    obtain ⟨v', h2, _⟩ := g.2.2.2.get e2
    exact ⟨vs, ws, u', v', .of g.1.1, .of g.2.1, h1, h2⟩
  yld := fun i x z H v H' e g y => by
    obtain ⟨u, w, e1, e2, rfl⟩ := zip_get e
    obtain ⟨T, x, y', rfl, n, rfl, y1, y2⟩ := y
    obtain ⟨u', h1, r1⟩ := g.1.2.2.get e1
    obtain ⟨v', h2, r2⟩ := g.2.2.2.get e2
    have q1 := y1 vs (.of g.1.1)
    have q2 := y2 ws (.of g.2.1)
    rw [h1] at q1; cases q1
    rw [h2] at q2; cases q2
    exact ⟨upd_keep n, tup2_rep n r1 r2⟩
  stop := fun i z H h g => by
    refine ⟨vs, ws, .of g.1.1, .of g.2.1, ?_⟩
    rw [← g.1.2.2.length, ← g.2.2.2.length]
    rw [List.length_zipWith] at h
    omega
  stay := fun M z H z' H' g s m => ⟨g.1.stay s m, g.2.stay s m⟩
theorem walks_enu {a : Addr} {xs : List PV} {vs : List V} : Walks C (Ite C.K a) (xs.zipIdx.map fun p => PV.tup [.int p.2, p.1]) (GL C a xs vs) where
  go := fun i x z H e g => by
    have hi := (List.getElem?_eq_some_iff.mp e).1
    simp only [List.length_map, List.length_zipIdx] at hi
    obtain ⟨v, h1, _⟩ := g.2.2.get (List.getElem?_eq_getElem hi)
    exact ⟨vs, v, .of g.1, h1⟩
  yld := fun i x z H v H' e g y => by
    have hi := (List.getElem?_eq_some_iff.mp e).1
    simp only [List.length_map, List.length_zipIdx] at hi
    obtain ⟨T, x', rfl, n, rfl, y1⟩ := y
    obtain ⟨u', h1, r1⟩ := g.2.2.get (List.getElem?_eq_getElem hi)
    have q1 := y1 vs (.of g.1)
    rw [h1] at q1; cases q1
    rw [List.getElem?_map, List.getElem?_zipIdx, List.getElem?_eq_getElem hi] at e
    cases e
    exact ⟨upd_keep n, tup2_rep n (by first | exact .int _ | (simp only [Nat.zero_add]; exact .int _)) r1⟩
  stop := fun i z H h g => ⟨vs, .of g.1, by rw [← g.2.2.length]; simpa using h⟩
  stay := fun M z H z' H' g s m => g.stay s m
end

/-! ### the iterated expression -/
section
variable (C : Ctx) (L : Act) (W : WX)
def OutI (σ : L2.St) (z : As) (H : Hp) (p : Sg) (k : IK) (R : It → Hp → Prop) : Rs (List RV) → Prop
  | .ok rs p' => match valsOf rs with
    | some l => match itV k l with
      | some xs => ∀ J H' z' G, Walks C J xs G → G z' H' → Go C L z H p σ z' H' p' σ → R J H'
      | none => False
    | none => False
  | .er x p' => ∀ cls d H' z', Go C L z H p σ z' H' p' σ → XRep C z' H' x cls d → W cls d σ H'
  | .no => False
/-- from the sources' values: the trees that are walked -/
def iOf (k : IK) (f : Sg → Rs (List RV)) : TI := fun σ H R => ∃ z p, SRel C L z H p σ ∧ OutI C L W σ z H p k R (f p)
end
section
variable {C : Ctx} {L : Act} {W : WX} {X : Cx}
/-- a walk over what an expression gives: a list or a tuple -/
theorem pi_seq {tg l : Expr} {tl : TE} (hl : PE X l tl) :
    PI X tg l (fun σ H R => tl σ H fun x H1 => ∃ a, x = .ref a ∧ (((∃ xs, SqL X.K H1 a xs) ∧ R (Itl X.K a) H1) ∨ ((∃ xs, SqT X.K H1 a xs) ∧ R (Itt X.K a) H1))) := by
  constructor
  intro pins s σ H R I h
  apply thn (hl.run pins s σ H _ I h)
  rintro v s1 ⟨x, H1, I1, r1, a, rfl, q⟩
  obtain rfl : v = .ref a := r1
  have fp : ∀ b ∈ [s1.heap.objs.size], FpOk X pins H1 b := fun b hb => by
    cases List.mem_singleton.mp hb
    exact I1.fpOk (Nat.le_refl _) (I1.hok.fresh (Nat.le_refl _))
  have pushed : ∀ o, Inv X pins σ H1 { s1 with heap := s1.heap.push o } := fun o => I1.kept (t' := s1.toks) fun _ _ e => Heap.get?_push_of_some _ e
  rcases q with ⟨⟨xs, hq⟩, q⟩ | ⟨⟨xs, hq⟩, q⟩
  · obtain ⟨its, _, pl, _⟩ := I1.list hq
    apply wpAny_pyIter_list pl.isList
    exact ⟨_, _, _, _, H1, rfl, pushed _, turn_list a _, ⟨_, Heap.get?_push_size _ rfl, rfl, rfl⟩, fp, q⟩
  · obtain ⟨its, _, pl, _⟩ := I1.tuple hq
    apply wpAny_pyIter_tuple (items := its.toArray) pl
    exact ⟨_, _, _, _, H1, rfl, pushed _, turn_tuple a _, ⟨_, Heap.get?_push_size _ rfl, rfl, rfl⟩, fp, q⟩
end
end Mp

/-! MpE: expressions by the interpreter, one rule a form. -/
namespace Mp
open PySem PySem.Spec PyProof.Rows L2

theorem bl_of {x : RV} {b : Bool} (h : x.bl? = some b) : x = .val (.bl b) := by
  unfold RV.bl? at h
  split at h
  · cases h; rfl
  · cases h
theorem int_of {x : RV} {b : Int} (h : x.int? = some b) : x = .val (.int b) := by
  unfold RV.int? at h
  split at h
  · cases h; rfl
  · cases h
theorem val_of {x : RV} {b : PV} (h : x.val? = some b) : x = .val b := by
  unfold RV.val? at h
  split at h
  · cases h; rfl
  · cases h
section
variable {C : Ctx} {L : Act} {W : WX} {X : Cx} {fa fb fc : Sg → Rs RV} {a b c : Expr} {pos : Pos}
/-- a value that stands still -/
theorem e_con {x : PV} {v : V} (h : PE X a (tC v)) (r : ∀ z H, Rep C z H x v) : PE X a (tOf C L W fun s => .ok (.val x) s) :=
  PE.imp h fun σ H Q ⟨z, p, s, k⟩ => k v H z (.refl s) (.val (r z H))
theorem SRel.freeze {z : As} {H : Hp} {p : Sg} {σ : L2.St} {i : Nat} {t : Bool} {x : PV} (s : SRel C L z H p σ) (e : p[i]? = some (.own t x)) :
    ∃ a z1, σ[i]? = some (some (.ref a)) ∧ Go C L z H p σ z1 H (p.set i (.pv x)) σ ∧ Rep C z1 H x (.ref a) := by
  obtain ⟨a, o, h1, h2, h3, h4, h5, h6⟩ := s.ow i t x e
  have hi : i < p.length := (List.getElem?_eq_some_iff.mp e).1
  have rx : Rep C (fun b => z b ∧ ¬ b = a) H x (.ref a) := by
    cases h5 with
    | of h => exact h.less fun _ q => q.1
    | lst e r => exact .lst e (fun q => q.2 rfl) (r.less fun _ q => q.1)
  have own' : ∀ {j u y}, (p.set i (.pv x))[j]? = some (.own u y) → j ≠ i ∧ p[j]? = some (.own u y) := fun {j u y} q => by
    by_cases hj : i = j
    · subst hj; rw [List.getElem?_set_self hi] at q; cases q
    · rw [List.getElem?_set_ne hj] at q; exact ⟨Ne.symm hj, q⟩
  refine ⟨a, _, h1, ⟨⟨by simpa using s.len, fun b q => s.zt b q.1, s.h0, fun j y q => ?_, fun j u y q => ?_, fun j k u w y y2 b q1 q2 => ?_, s.mp⟩, ⟨fun _ _ q _ => q, fun _ q => q, fun b q n => ⟨q, fun z => n ⟨i, t, x, e, by rw [z]; exact h1⟩⟩, fun b q => .inl q.1⟩, fun b ⟨j, u, y, q1, q2⟩ => .inl ⟨j, u, y, (own' q1).2, q2⟩⟩, rx⟩
  · by_cases hj : i = j
    · subst hj; rw [List.getElem?_set_self hi] at q; cases q; exact ⟨_, h1, rx⟩
    · rw [List.getElem?_set_ne hj] at q
      obtain ⟨v, g1, g2⟩ := s.pv j y q
      exact ⟨v, g1, g2.less fun _ q => q.1⟩
  · obtain ⟨hj, q'⟩ := own' q
    obtain ⟨b, o', g1, g2, g3, g4, g5, g6⟩ := s.ow j u y q'
    refine ⟨b, o', g1, ⟨g2, fun z => hj (s.dj j i u t y x a q' e (by rw [g1, z]) h1)⟩, g3, g4, ?_, g6⟩
    cases g5 with
    | of h => exact .of (h.less fun _ q => q.1)
    | lst e r => exact .lst e (r.less fun _ q => q.1)
  · exact s.dj j k u w y y2 b (own' q1).2 (own' q2).2
theorem e_var {cl : Cl} {tb : Nat → Option Fd} {i : Nat} (h : PE X a (tVar i)) : PE X a (tOf C L W (evE cl tb (.var i))) := by
  refine PE.imp h fun σ H Q ⟨z, p, s, k⟩ => ?_
  unfold evE at k
  cases e : p[i]? with
  | none => rw [e] at k; exact k.elim
  | some sl =>
    rw [e] at k
    cases sl with
    | un => exact k.elim
    | pv x =>
      obtain ⟨v, h1, h2⟩ := s.pv i x e
      exact ⟨v, h1, k v H z (.refl s) (.val h2)⟩
    | own t x =>
      obtain ⟨v, z1, h1, g, r⟩ := s.freeze e
      exact ⟨_, h1, k _ H z1 g (.val r)⟩
theorem e_bor {cl : Cl} {tb : Nat → Option Fd} {i : Nat} (h : PE X a (tVar i)) : PE X a (tOf C L W (evE cl tb (.bor i))) := by
  refine PE.imp h fun σ H Q ⟨z, p, s, k⟩ => ?_
  unfold evE at k
  cases e : p[i]? with
  | none => rw [e] at k; exact k.elim
  | some sl =>
    rw [e] at k
    cases sl with
    | un => exact k.elim
    | pv x =>
      obtain ⟨v, h1, h2⟩ := s.pv i x e
      exact ⟨v, h1, k v H z (.refl s) (.val h2)⟩
    | own t x =>
      obtain ⟨v, o, h1, _⟩ := s.ow i t x e
      exact ⟨_, h1, k _ H z (.refl s) (.bor h1)⟩
/-- two operands -/
theorem read2 {r : R2} {f : RV → RV → Sg → Rs RV} (hf : ∀ z H p σ Q z2 H2 p2 x y v u, SRel C L z H p σ → Go C L z H p σ z2 H2 p2 σ → RRep C z2 H H2 p2 σ x v → RRep C z2 H H2 p2 σ y u → OutE C L W (RRep C) σ z H p Q (f x y p2) → r v u H2 Q) :
    ∀ σ H Q, tOf C L W (fun s => (fa s).bind fun x s1 => (fb s1).bind fun y s2 => f x y s2) σ H Q → tOp r (tOf C L W fa) (tOf C L W fb) σ H Q := by
  rintro σ H Q ⟨z, p, s, k⟩
  refine ⟨z, p, s, ?_⟩
  dsimp only at k
  cases e1 : fa p with
  | no => rw [e1] at k; exact k.elim
  | er x p1 => rw [e1] at k; exact k
  | ok x p1 =>
    rw [e1] at k
    intro v H1 z1 g1 r1
    refine ⟨z1, p1, g1.rel, ?_⟩
    replace k : OutE C L W (RRep C) σ z H p Q ((fb p1).bind fun y s2 => f x y s2) := k
    cases e2 : fb p1 with
    | no => rw [e2] at k; exact k.elim
    | er y p2 => rw [e2] at k; exact fun cls d H2 z2 g2 q => k cls d H2 z2 (g1.trans s g2) q
    | ok y p2 =>
      rw [e2] at k
      exact fun u H2 z2 g2 r2 => hf z H p σ Q z2 H2 p2 x y v u s (g1.trans s g2) (r1.go g1.rel g2) (r2.up fun a q => g1.stp.there a q) k
/-- one operand -/
theorem read1 {r : V → Hp → VK → Prop} {f : RV → Sg → Rs RV} (hf : ∀ z H p σ Q z2 H2 p2 x v, SRel C L z H p σ → Go C L z H p σ z2 H2 p2 σ → RRep C z2 H H2 p2 σ x v → OutE C L W (RRep C) σ z H p Q (f x p2) → r v H2 Q) :
    ∀ σ H Q, tOf C L W (fun s => (fa s).bind f) σ H Q → tUn r (tOf C L W fa) σ H Q := by
  rintro σ H Q ⟨z, p, s, k⟩
  refine ⟨z, p, s, ?_⟩
  dsimp only at k
  cases e1 : fa p with
  | no => rw [e1] at k; exact k.elim
  | er x p1 => rw [e1] at k; exact k
  | ok x p1 =>
    rw [e1] at k
    exact fun v H1 z1 g1 r1 => hf z H p σ Q z1 H1 p1 x v s g1 r1 k
theorem e_bin {op : Operator} (hK : X.K = C.K) (ha : PE X a (tOf C L W fa)) (hb : PE X b (tOf C L W fb)) :
    PE X (.BinOp a op b pos) (tOf C L W fun s => (fa s).bind fun x s1 => (fb s1).bind fun y s2 => match deref s2 x, deref s2 y with
      | some u, some v => ret1 s2 (binV op u v)
      | _, _ => .no) := by
  refine PE.imp (pe_op (op_bin hK) ha hb) (read2 fun z H p σ Q z2 H2 p2 x y v u s g rx ry k => ?_)
  cases e1 : deref p2 x with
  | none => rw [e1] at k; exact k.elim
  | some m =>
    cases e2 : deref p2 y with
    | none => rw [e1, e2] at k; exact k.elim
    | some n =>
      rw [e1, e2] at k
      replace k : OutE C L W (RRep C) σ z H p Q (ret1 p2 (binV op m n)) := k
      cases e3 : binV op m n with
      | none => rw [e3] at k; exact k.elim
      | some r =>
        rw [e3] at k
        exact ⟨z2, m, n, r, deref_top g.rel rx e1, deref_top g.rel ry e2, e3, fun w H' an => an.fin s g fun v H1 z1 g1 r1 => k v H1 z1 g1 r1⟩
theorem e_neg (ha : PE X a (tOf C L W fa)) : PE X (.UnaryOp .USub a pos) (tOf C L W fun s => (fa s).bind fun x s1 => match x.int? with
    | some i => .ok (.val (.int (-i))) s1
    | none => .no) := by
  refine PE.imp (pe_un un_neg ha) (read1 fun z H p σ Q z2 H2 p2 x v s g rx k => ?_)
  cases e1 : x.int? with
  | none => rw [e1] at k; exact k.elim
  | some i =>
    rw [e1] at k
    obtain rfl := int_of e1
    cases rx with | val h => cases h; exact ⟨_, rfl, k _ _ _ g (.val (.int _))⟩
theorem e_cmp {op : CmpOp} (hK : X.K = C.K) (hu : X.A.units + 65 < cLine) (gv : ∀ g v, C.gv g = some v → ∃ f, v = .ref f) (hm : behindInMarks op b = false) (ha : PE X a (tOf C L W fa)) (hb : PE X b (tOf C L W fb)) :
    PE X (.Compare a [op] [b] pos) (tOf C L W fun s => (fa s).bind fun x s1 => (fb s1).bind fun y s2 => match deref s2 x, deref s2 y with
      | some u, some v => match cmpV op u v with
        | some c => .ok (.val (.bl c)) s2
        | none => .no
      | _, _ => .no) := by
  refine PE.imp (pe_cmpR (op_cmp hK hu gv) ha hb hm) (read2 fun z H p σ Q z2 H2 p2 x y v u s g rx ry k => ?_)
  cases e1 : deref p2 x with
  | none => rw [e1] at k; exact k.elim
  | some m =>
    cases e2 : deref p2 y with
    | none => rw [e1, e2] at k; exact k.elim
    | some n =>
      rw [e1, e2] at k
      dsimp only at k
      cases e3 : cmpV op m n with
      | none => rw [e3] at k; exact k.elim
      | some r =>
        rw [e3] at k
        exact ⟨z2, m, n, r, deref_top g.rel rx e1, deref_top g.rel ry e2, e3, k _ _ _ g (.val (.bl _))⟩
theorem e_sub (hK : X.K = C.K) (hs : PlainIx b) (ha : PE X a (tOf C L W fa)) (hb : PE X b (tOf C L W fb)) :
    PE X (.Subscript a b pos) (tOf C L W fun s => (fa s).bind fun x s1 => (fb s1).bind fun y s2 => match deref s2 x, deref s2 y with
      | some u, some v => match subV u v with
        | some w => .ok (.val w) s2
        | none => .no
      | _, _ => .no) := by
  refine PE.imp (pe_ix (ix_sub hK) ha hb hs) (read2 fun z H p σ Q z2 H2 p2 x y v u s g rx ry k => ?_)
  cases e1 : deref p2 x with
  | none => rw [e1] at k; exact k.elim
  | some m =>
    cases e2 : deref p2 y with
    | none => rw [e1, e2] at k; exact k.elim
    | some n =>
      rw [e1, e2] at k
      dsimp only at k
      cases e3 : subV m n with
      | none => rw [e3] at k; exact k.elim
      | some r =>
        rw [e3] at k
        exact ⟨z2, m, n, r, deref_top g.rel rx e1, deref_top g.rel ry e2, e3, fun w rw => k _ _ _ g (.val rw)⟩
/-! ### truth, tests -/
/-- a bool of a test as the reading of tests by the interpreter -/
theorem t_val (hK : X.K = C.K) (ha : PE X a (tOf C L W fa)) (he : ∀ whole, isTrue a X.env whole = (do let v ← whole; standAt a.pos; holding [v] (truthy v))) : PT X a (tOfB C L W fun s => asB (fa s)) := by
  refine PT.imp (pt_truth ha he) ?_
  rintro σ H Q ⟨z, p, s, k⟩
  refine ⟨z, p, s, ?_⟩
  dsimp only at k
  cases e1 : fa p with
  | no => rw [e1] at k; exact k.elim
  | er x p1 => rw [e1] at k; exact k
  | ok x p1 =>
    rw [e1] at k
    intro v H1 z1 g1 r1
    replace k : OutE C L W (fun _ _ _ _ _ (r : Bool) (v : Bool) => r = v) σ z H p Q (match deref p1 x with
      | some x => (match truV x with
        | some b => Rs.ok b p1
        | none => .no)
      | none => .no) := k
    cases e2 : deref p1 x with
    | none => rw [e2] at k; exact k.elim
    | some m =>
      rw [e2] at k
      dsimp only at k
      cases e3 : truV m with
      | none => rw [e3] at k; exact k.elim
      | some t =>
        rw [e3] at k
        exact ⟨t, by rw [hK]; exact tru_of (deref_top g1.rel r1 e2) e3, k t H1 z1 g1 rfl⟩
/-- an expression that gives a bool, as a test -/
theorem b_read {f : Sg → Rs RV} (hb : ∀ s v s', f s = .ok v s' → ∃ t, v = .val (.bl t)) : ∀ (σ : L2.St) (H : Hp) (Q : Bool → Hp → Prop), tOfB C L W (fun s => asB (f s)) σ H Q → tOf C L W f σ H fun x H1 => ∃ t, x = .bl t ∧ Q t H1 := by
  rintro σ H Q ⟨z, p, s, k⟩
  refine ⟨z, p, s, ?_⟩
  dsimp only at k
  cases e1 : f p with
  | no => rw [e1] at k; exact k.elim
  | er x p1 => rw [e1] at k; exact k
  | ok x p1 =>
    obtain ⟨t, rfl⟩ := hb _ _ _ e1
    rw [e1] at k
    intro v H1 z1 g1 r1
    cases r1 with | val h => cases h; exact ⟨t, rfl, k t H1 z1 g1 rfl⟩
end
end Mp

/-! MpF: and, or, not, conditional expressions, displays, slices, built-ins, arguments. -/
namespace Mp
open PySem PySem.Spec PyProof.Rows L2

section
variable {C : Ctx} {L : Act} {W : WX} {X : Cx} {fa fb fc : Sg → Rs RV} {ga gb : Sg → Rs Bool} {a b c : Expr} {rest : List Expr} {pos : Pos}
theorem tOf.later {f : Sg → Rs RV} {z z1 : As} {H H1 : Hp} {p p1 : Sg} {σ : L2.St} {Q : VK} (s : SRel C L z H p σ) (g : Go C L z H p σ z1 H1 p1 σ) (k : OutE C L W (RRep C) σ z H p Q (f p1)) : tOf C L W f σ H1 Q :=
  ⟨z1, p1, g.rel, k.later s g fun _ _ _ _ _ r => r.up fun a q => g.stp.there a q⟩
theorem tOfB.later {f : Sg → Rs Bool} {z z1 : As} {H H1 : Hp} {p p1 : Sg} {σ : L2.St} {Q : Bool → Hp → Prop} (s : SRel C L z H p σ) (g : Go C L z H p σ z1 H1 p1 σ) (k : OutE C L W (fun _ _ _ _ _ (r : Bool) (v : Bool) => r = v) σ z H p Q (f p1)) : tOfB C L W f σ H1 Q :=
  ⟨z1, p1, g.rel, k.later s g fun _ _ _ _ _ r => r⟩
/-- a test ahead -/
theorem readB {tt : TT} {f : Bool → Sg → Rs RV} {R : Bool → L2.St → Hp → VK → Prop} (ht : ∀ σ H Q, tOfB C L W ga σ H Q → tt σ H Q)
    (hf : ∀ z H p σ Q z1 H1 p1 t, SRel C L z H p σ → Go C L z H p σ z1 H1 p1 σ → OutE C L W (RRep C) σ z H p Q (f t p1) → R t σ H1 Q) :
    ∀ σ H Q, tOf C L W (fun s => (ga s).bind f) σ H Q → tt σ H fun t H1 => R t σ H1 Q := by
  rintro σ H Q ⟨z, p, s, k⟩
  refine ht _ _ _ ⟨z, p, s, ?_⟩
  dsimp only at k
  cases e1 : ga p with
  | no => rw [e1] at k; exact k.elim
  | er x p1 => rw [e1] at k; exact k
  | ok t p1 =>
    rw [e1] at k
    rintro v H1 z1 g1 rfl
    exact hf z H p σ Q z1 H1 p1 t s g1 k
theorem e_not (hK : X.K = C.K) (ha : PE X a (tOf C L W fa)) : PE X (.UnaryOp .Not a pos) (tOf C L W fun s => (asB (fa s)).bind fun t s1 => .ok (.val (.bl !t)) s1) := by
  refine PE.imp (pe_notT ha) ?_
  rintro σ H Q ⟨z, p, s, k⟩
  refine ⟨z, p, s, ?_⟩
  dsimp only at k
  cases e1 : fa p with
  | no => rw [e1] at k; exact k.elim
  | er x p1 => rw [e1] at k; exact k
  | ok x p1 =>
    rw [e1] at k
    intro v H1 z1 g1 r1
    cases e2 : deref p1 x with
    | none =>
      dsimp only [asB, Rs.bind] at k
      rw [e2] at k; exact k.elim
    | some m =>
      dsimp only [asB, Rs.bind] at k
      rw [e2] at k
      dsimp only at k
      cases e3 : truV m with
      | none => rw [e3] at k; exact k.elim
      | some t =>
        rw [e3] at k
        exact ⟨t, by rw [hK]; exact tru_of (deref_top g1.rel r1 e2) e3, k _ _ _ g1 (.val (.bl _))⟩
theorem e_and (ha : PE X a (tOf C L W fa)) (hb : PE X (.BoolOp .And (b :: rest) pos) (tOf C L W fb)) : PE X (.BoolOp .And (a :: b :: rest) pos) (tOf C L W fun s => (fa s).bind fun x s1 => match x.bl? with
    | some true => fb s1
    | some false => .ok (.val (.bl false)) s1
    | none => .no) := by
  refine PE.imp (pe_and ha hb) ?_
  rintro σ H Q ⟨z, p, s, k⟩
  refine ⟨z, p, s, ?_⟩
  dsimp only at k
  cases e1 : fa p with
  | no => rw [e1] at k; exact k.elim
  | er x p1 => rw [e1] at k; exact k
  | ok x p1 =>
    rw [e1] at k
    intro v H1 z1 g1 r1
    dsimp only [Rs.bind] at k
    cases e2 : x.bl? with
    | none => rw [e2] at k; exact k.elim
    | some t =>
      rw [e2] at k
      obtain rfl := bl_of e2
      cases r1 with
      | val h =>
        cases h
        cases t with
        | true => exact ⟨true, rfl, iteT (tOf.later s g1 k)⟩
        | false => exact ⟨false, rfl, iteF (k _ _ _ g1 (.val (.bl _)))⟩
theorem e_or (ha : PE X a (tOf C L W fa)) (hb : PE X (.BoolOp .Or (b :: rest) pos) (tOf C L W fb)) : PE X (.BoolOp .Or (a :: b :: rest) pos) (tOf C L W fun s => (fa s).bind fun x s1 => match x.bl? with
    | some false => fb s1
    | some true => .ok (.val (.bl true)) s1
    | none => .no) := by
  refine PE.imp (pe_or ha hb) ?_
  rintro σ H Q ⟨z, p, s, k⟩
  refine ⟨z, p, s, ?_⟩
  dsimp only at k
  cases e1 : fa p with
  | no => rw [e1] at k; exact k.elim
  | er x p1 => rw [e1] at k; exact k
  | ok x p1 =>
    rw [e1] at k
    intro v H1 z1 g1 r1
    dsimp only [Rs.bind] at k
    cases e2 : x.bl? with
    | none => rw [e2] at k; exact k.elim
    | some t =>
      rw [e2] at k
      obtain rfl := bl_of e2
      cases r1 with
      | val h =>
        cases h
        cases t with
        | false => exact ⟨false, rfl, iteF (tOf.later s g1 k)⟩
        | true => exact ⟨true, rfl, iteT (k _ _ _ g1 (.val (.bl _)))⟩
theorem e_ife (ht : PT X c (tOfB C L W ga)) (ha : PE X a (tOf C L W fa)) (hb : PE X b (tOf C L W fb)) : PE X (.IfExp c a b pos) (tOf C L W fun s => (ga s).bind fun t s1 => if t then fa s1 else fb s1) := by
  refine PE.imp (pe_ifExp ht ha hb) (readB (R := fun t σ H1 Q => if t = true then tOf C L W fa σ H1 Q else tOf C L W fb σ H1 Q) (fun _ _ _ h => h) fun z H p σ Q z1 H1 p1 t s g k => ?_)
  cases t with
  | true => exact iteT (tOf.later s g k)
  | false => exact iteF (tOf.later s g k)
/-! tests -/
theorem t_and (ha : PT X a (tOfB C L W ga)) (hb : PW X (.BoolOp .And (b :: rest) pos) (tOfB C L W gb)) : PW X (.BoolOp .And (a :: b :: rest) pos) (tOfB C L W fun s => (ga s).bind fun t s1 => if t then gb s1 else .ok false s1) := by
  have h := pw_and ha hb
  refine ⟨fun wh pins s0 σ H Q I ⟨z, p, s, k⟩ => h.run wh pins s0 σ H Q I ⟨z, p, s, ?_⟩⟩
  dsimp only at k
  cases e1 : ga p with
  | no => rw [e1] at k; exact k.elim
  | er x p1 => rw [e1] at k; exact k
  | ok t p1 =>
    rw [e1] at k
    rintro v H1 z1 g1 rfl
    cases t with
    | true => exact iteT (tOfB.later s g1 k)
    | false => exact iteF (k _ _ _ g1 rfl)
theorem t_or (ha : PT X a (tOfB C L W ga)) (hb : PW X (.BoolOp .Or (b :: rest) pos) (tOfB C L W gb)) : PW X (.BoolOp .Or (a :: b :: rest) pos) (tOfB C L W fun s => (ga s).bind fun t s1 => if t then .ok true s1 else gb s1) := by
  have h := pw_or ha hb
  refine ⟨fun wh pins s0 σ H Q I ⟨z, p, s, k⟩ => h.run wh pins s0 σ H Q I ⟨z, p, s, ?_⟩⟩
  dsimp only at k
  cases e1 : ga p with
  | no => rw [e1] at k; exact k.elim
  | er x p1 => rw [e1] at k; exact k
  | ok t p1 =>
    rw [e1] at k
    rintro v H1 z1 g1 rfl
    cases t with
    | true => exact iteT (k _ _ _ g1 rfl)
    | false => exact iteF (tOfB.later s g1 k)
theorem t_not (ha : PT X a (tOfB C L W ga)) : PT X (.UnaryOp .Not a pos) (tOfB C L W fun s => (ga s).bind fun t s1 => .ok (!t) s1) := by
  refine PT.imp (pt_not ha) ?_
  rintro σ H Q ⟨z, p, s, k⟩
  refine ⟨z, p, s, ?_⟩
  dsimp only at k
  cases e1 : ga p with
  | no => rw [e1] at k; exact k.elim
  | er x p1 => rw [e1] at k; exact k
  | ok t p1 =>
    rw [e1] at k
    rintro v H1 z1 g1 rfl
    exact k _ _ _ g1 rfl
theorem PT.eq {e : Expr} {f g : Sg → Rs Bool} (h : PT X e (tOfB C L W f)) (q : ∀ s, g s = f s) : PT X e (tOfB C L W g) := by
  have : g = f := funext q
  rw [this]; exact h
theorem PW.eq {e : Expr} {f g : Sg → Rs Bool} (h : PW X e (tOfB C L W f)) (q : ∀ s, g s = f s) : PW X e (tOfB C L W g) := by
  have : g = f := funext q
  rw [this]; exact h
theorem PE.eq {e : Expr} {f g : Sg → Rs RV} (h : PE X e (tOf C L W f)) (q : ∀ s, g s = f s) : PE X e (tOf C L W g) := by
  have : g = f := funext q
  rw [this]; exact h
theorem asB_bl (r : Rs RV) (g : RV → Sg → Rs Bool) (h : ∀ v s, r = .ok v s → g v s = (match deref s v with
    | some x => (match truV x with
      | some b => .ok b s
      | none => .no)
    | none => .no)) : asB r = r.bind g := by
  cases r with
  | ok v s => exact (h v s rfl).symm
  | er => rfl
  | no => rfl
theorem bind_bind {α β γ : Type} (r : Rs α) (f : α → Sg → Rs β) (g : β → Sg → Rs γ) : (r.bind f).bind g = r.bind fun a s => (f a s).bind g := by
  cases r <;> rfl
theorem asB_bind {α : Type} (r : Rs α) (f : α → Sg → Rs RV) : asB (r.bind f) = r.bind fun a s => asB (f a s) := by
  cases r <;> rfl
theorem asB_ok (b : Bool) (s : Sg) : asB (.ok (.val (.bl b)) s) = .ok b s := rfl
/-! displays -/
theorem e_tup {es : List Expr} {x1} {fl : Sg → Rs (List RV)} (ha : PA X es (tOfL C L W fl)) : PE X (.Tuple es x1 pos) (tOf C L W fun s => (fl s).bind fun rs s1 => match valsOf rs with
    | some l => if l.length ≤ line then .ok (.val (.tup l)) s1 else .no
    | none => .no) := by
  refine PE.imp (pe_tup ha) ?_
  rintro σ H Q ⟨z, p, s, k⟩
  refine ⟨z, p, s, ?_⟩
  dsimp only at k
  cases e1 : fl p with
  | no => rw [e1] at k; exact k.elim
  | er x p1 => rw [e1] at k; exact k
  | ok rs p1 =>
    rw [e1] at k
    intro vs H1 z1 g1 r1
    dsimp only [Rs.bind] at k
    cases e2 : valsOf rs with
    | none => rw [e2] at k; exact k.elim
    | some l =>
      rw [e2] at k
      dsimp only at k
      have hl := r1.length
      have rl := vals_rep r1 e2 (FrsIn rs vs) fun a q => q
      have g2 := g1.less s (FrsIn rs vs) (frsIn_facts r1)
      split at k
      · rename_i hz
        exact ⟨by rw [← rl.length]; exact hz, fun a n => (Ans.tup n rl).fin s g2 fun v H2 z2 g3 r3 => k v H2 z2 g3 r3⟩
      · exact k.elim
theorem e_lst {es : List Expr} {fl : Sg → Rs (List RV)} (ha : PA X es (tOfL C L W fl)) : PE X (.List es pos) (tOf C L W fun s => (fl s).bind fun rs s1 => match valsOf rs with
    | some l => if l.length ≤ line then .ok (.frs (.lst l)) s1 else .no
    | none => .no) := by
  refine PE.imp (pe_lst ha) ?_
  rintro σ H Q ⟨z, p, s, k⟩
  refine ⟨z, p, s, ?_⟩
  dsimp only at k
  cases e1 : fl p with
  | no => rw [e1] at k; exact k.elim
  | er x p1 => rw [e1] at k; exact k
  | ok rs p1 =>
    rw [e1] at k
    intro vs H1 z1 g1 r1
    dsimp only [Rs.bind] at k
    cases e2 : valsOf rs with
    | none => rw [e2] at k; exact k.elim
    | some l =>
      rw [e2] at k
      dsimp only at k
      have rl := vals_rep r1 e2 (FrsIn rs vs) fun a q => q
      have g2 := g1.less s (FrsIn rs vs) (frsIn_facts r1)
      split at k
      · rename_i hz
        exact ⟨by rw [← rl.length]; exact hz, fun a n => (Ans.lst n rl).fin s g2 fun v H2 z2 g3 r3 => k v H2 z2 g3 r3⟩
      · exact k.elim
/-! arguments -/
theorem a_nil : PA X [] (tOfL C L W fun s => .ok [] s) := PA.imp pa_nil fun σ H Q ⟨z, p, s, k⟩ => k [] H z (.refl s) .nil
theorem a_cons {e : Expr} {es : List Expr} {fl : Sg → Rs (List RV)} (ha : PE X e (tOf C L W fa)) (hr : PA X es (tOfL C L W fl)) (hs : starEach (e :: es) X.env = (false, eval e X.env) :: starEach es X.env) :
    PA X (e :: es) (tOfL C L W fun s => (fa s).bind fun r s1 => (fl s1).bind fun rs s2 => .ok (r :: rs) s2) := by
  refine PA.imp (pa_cons ha hr hs) ?_
  rintro σ H Q ⟨z, p, s, k⟩
  refine ⟨z, p, s, ?_⟩
  dsimp only at k
  cases e1 : fa p with
  | no => rw [e1] at k; exact k.elim
  | er x p1 => rw [e1] at k; exact k
  | ok x p1 =>
    rw [e1] at k
    intro v H1 z1 g1 r1
    refine ⟨z1, p1, g1.rel, ?_⟩
    dsimp only [Rs.bind] at k
    cases e2 : fl p1 with
    | no => rw [e2] at k; exact k.elim
    | er y p2 => rw [e2] at k; exact fun cls d H2 z2 g2 q => k cls d H2 z2 (g1.trans s g2) q
    | ok rs p2 =>
      rw [e2] at k
      intro vs H2 z2 g2 r2
      refine k (v :: vs) H2 z2 (g1.trans s g2) (.cons (r1.go g1.rel g2) (r2.up fun a q => g1.stp.there a q) ?_)
      rintro y a rfl rfl hf
      have := (frsIn_facts r2 a hf).1
      cases r1 with
      | frs _ _ _ q _ _ => rw [q] at this; cases this
/-! slices -/
def tOfO (C : Ctx) (L : Act) (W : WX) (f : Sg → Rs (Option Int)) : TO := fun σ H Q => ∃ z p, SRel C L z H p σ ∧ OutE C L W (fun _ _ _ _ _ (r : Option Int) (v : Option Int) => r = v) σ z H p Q (f p)
theorem o_none : PO X none (tOfO C L W fun s => .ok none s) := ⟨fun pins s0 σ H Q I ⟨z, p, s, k⟩ => po_none.run pins s0 σ H Q I (k none H z (.refl s) rfl)⟩
theorem o_some (ha : PE X a (tOf C L W fa)) : PO X (some a) (tOfO C L W fun s => (fa s).bind fun r s1 => match r.int? with
    | some i => .ok (some i) s1
    | none => .no) := by
  have h := po_some ha
  refine ⟨fun pins s0 σ H Q I ⟨z, p, s, k⟩ => h.run pins s0 σ H Q I ⟨z, p, s, ?_⟩⟩
  dsimp only at k
  cases e1 : fa p with
  | no => rw [e1] at k; exact k.elim
  | er x p1 => rw [e1] at k; exact k
  | ok x p1 =>
    rw [e1] at k
    intro v H1 z1 g1 r1
    dsimp only [Rs.bind] at k
    cases e2 : x.int? with
    | none => rw [e2] at k; exact k.elim
    | some t =>
      rw [e2] at k
      obtain rfl := int_of e2
      cases r1 with | val h => cases h; exact ⟨_, rfl, k _ _ _ g1 rfl⟩
theorem e_slc {lo hi : Option Expr} {fl fh : Sg → Rs (Option Int)} {p2 : Pos} (hK : X.K = C.K) (ha : PE X a (tOf C L W fa)) (hl : PO X lo (tOfO C L W fl)) (hh : PO X hi (tOfO C L W fh)) :
    PE X (.Subscript a (.Slice lo hi none p2) pos) (tOf C L W fun s => (fa s).bind fun x s1 => (fl s1).bind fun l s2 => (fh s2).bind fun h s3 => match deref s3 x with
      | some u => ret1 s3 (slcV u l h)
      | none => .no) := by
  refine PE.imp (pe_slice (sl_slc hK) ha hl hh) ?_
  rintro σ H Q ⟨z, p, s, k⟩
  refine ⟨z, p, s, ?_⟩
  dsimp only at k
  cases e1 : fa p with
  | no => rw [e1] at k; exact k.elim
  | er x p1 => rw [e1] at k; exact k
  | ok x p1 =>
    rw [e1] at k
    intro v H1 z1 g1 r1
    refine ⟨z1, p1, g1.rel, ?_⟩
    dsimp only [Rs.bind] at k
    cases e2 : fl p1 with
    | no => rw [e2] at k; exact k.elim
    | er y p2 => rw [e2] at k; exact fun cls d H2 z2 g2 q => k cls d H2 z2 (g1.trans s g2) q
    | ok l p2 =>
      rw [e2] at k
      rintro l' H2 z2 g2 rfl
      refine ⟨z2, p2, g2.rel, ?_⟩
      dsimp only [Rs.bind] at k
      cases e3 : fh p2 with
      | no => rw [e3] at k; exact k.elim
      | er y p3 => rw [e3] at k; exact fun cls d H3 z3 g3 q => k cls d H3 z3 ((g1.trans s g2).trans s g3) q
      | ok h p3 =>
        rw [e3] at k
        rintro h' H3 z3 g3 rfl
        have gg := (g1.trans s g2).trans s g3
        have rx := (r1.go g1.rel g2).go g2.rel g3
        dsimp only [Rs.bind] at k
        cases e4 : deref p3 x with
        | none => rw [e4] at k; exact k.elim
        | some m =>
          rw [e4] at k
          dsimp only [Rs.bind] at k
          cases e5 : slcV m l h with
          | none => rw [e5] at k; exact k.elim
          | some r =>
            rw [e5] at k
            exact ⟨z3, m, r, deref_top gg.rel rx e4, e5, fun w H' an => an.fin s gg fun v H1 z1 g1 r1 => k v H1 z1 g1 r1⟩
/-! built-ins -/
theorem rd_bi {bi : Bi} {fl : Sg → Rs (List RV)} : ∀ σ H Q, tOf C L W (fun s => (fl s).bind fun rs s1 => match derefs s1 rs with
    | some l => ret1 s1 (biV bi l)
    | none => .no) σ H Q → tCB (rBi C bi) (tOfL C L W fl) σ H Q := by
  rintro σ H Q ⟨z, p, s, k⟩
  refine ⟨z, p, s, ?_⟩
  dsimp only at k
  cases e1 : fl p with
  | no => rw [e1] at k; exact k.elim
  | er x p1 => rw [e1] at k; exact k
  | ok rs p1 =>
    rw [e1] at k
    intro vs H1 z1 g1 r1
    dsimp only [Rs.bind] at k
    cases e2 : derefs p1 rs with
    | none => rw [e2] at k; exact k.elim
    | some l =>
      rw [e2] at k
      dsimp only [Rs.bind] at k
      cases e3 : biV bi l with
      | none => rw [e3] at k; exact k.elim
      | some r =>
        rw [e3] at k
        exact ⟨z1, l, r, derefs_top g1.rel r1 e2, e3, fun w H' an => an.fin s g1 fun v H1 z1 g1 r1 => k v H1 z1 g1 r1⟩
theorem e_bui {bi : Bi} {e : Expr} {es : List Expr} {fl : Sg → Rs (List RV)} {p : Pos} (hK : X.K = C.K) (hc : X.calm = true) (hgd : X.A.guards = some []) (hu : X.A.units + 65 < cLine) (hg : Gl X (biName bi)) (hm : X.mg (biName bi) = none)
    (ha : PA X (e :: es) (tOfL C L W fl)) (he : starEach (e :: es) X.env = (false, eval e X.env) :: starEach es X.env) (hpl : (backTo pos (starEach es X.env)).any (·.1) = false) :
    PE X (.Call (.Name (biName bi) p) (e :: es) [] pos) (tOf C L W fun s => (fl s).bind fun rs s1 => match derefs s1 rs with
      | some l => ret1 s1 (biV bi l)
      | none => .no) := by
  have hcall : CallR X (biVal bi) (rBi C bi) := call_bi hK hc hgd hu
  have hboot := bi_boot bi
  have fin : ∀ {t : TE}, PE X (.Call (.Name (biName bi) p) (e :: es) [] pos) (tCB (rBi C bi) (tOfL C L W fl)) → _ := fun h => PE.imp h rd_bi
  cases bi <;> first
    | exact fin (t := fun _ _ _ => True) (pe_callB hcall hg hm hboot ha (by decide) (by decide) he hpl)
    | exact fin (t := fun _ _ _ => True) (pe_callTy hcall hg hm hboot ha (by decide) (by decide) he hpl)
end
end Mp

/-! MpG: calls of the text's defs. -/
namespace Mp
open PySem PySem.Spec PyProof.Rows L2

/-- a def's promise, where no guard of repr is up -/
structure FnG (C : Ctx) (k : Nat) (f : Addr) (fd : FuncData) (ps : List Str) (sp : Sp) : Prop where
  len : ∀ vs H Q E, sp vs H Q E → vs.length = ps.length
  run : ∀ (A : Around) (outer : List Env) (s : Shared) (H : Hp) (args : Args) (us : List Value) (vs : List V) (Q : VK) (E : XK), Room k A → A.guards = some [] → Env0 C.P C.w C.K C.mg C.base A outer s H →
    BindsTo s fd args (ps.zip us) → Vals vs us → sp vs H Q E → codeAny (model C.P C.w) A (.call (.ref f) args) (CR (L2.CX C.P C.w) outer C.P C.w H s Q E) s
/-- what stands for the def d, number g, by the interpreter's runs at n -/
def spOf (C : Ctx) (cl : Cl) (g : Nat) (d : Fd) : Sp := fun vs H Q E => ∃ z as, as.length = d.np ∧ vs.length = d.np ∧ SRel C ⟨[], H⟩ z H as (vs.map some) ∧ match cl g as with
  | .ok r as' => ∀ v H' z', Go C ⟨[], H⟩ z H as (vs.map some) z' H' as' (vs.map some) → RRep C z' H H' as' (vs.map some) r v → Q v H'
  | .er x as' => ∀ cls dd H' z', Go C ⟨[], H⟩ z H as (vs.map some) z' H' as' (vs.map some) → XRep C z' H' x cls dd → E cls dd H'
  | .no => False
structure DefOk (C : Ctx) (k : Nat) (cl : Cl) (g : Nat) (d : Fd) : Prop where
  ex : ∃ (f : Addr) (fd : FuncData), C.mg d.name = some (.ref f) ∧ PySem.W.keepIn C.K (.ref f) = true ∧ FnG C k f fd (d.N.take d.np) (spOf C cl g d) ∧ (d.N.take d.np).length = d.np ∧
    ∀ m, m ≤ d.np → d.np ≤ m + d.dfl.length → ∃ (dvs : List V) (ds : List Value), dvs.length + m = d.np ∧ (∀ z H, RepL C z H (d.dfl.drop (m + d.dfl.length - d.np)) dvs) ∧ Vals dvs ds ∧ L2.Binds C.K fd (d.N.take d.np) ds

section
variable {C : Ctx} {L : Act} {z z' : As} {H H' : Hp} {p : Sg} {σ : L2.St}
/-- the arguments as slots -/
theorem argSlots_len {s : Sg} {mp : List Nat} : ∀ {rs : List RV} {k : Nat} {as : Sg}, argSlots s mp k rs = some as → as.length = rs.length
  | [], _, _, e => by cases e; rfl
  | r :: rs, k, as, e => by
    unfold argSlots at e
    cases q : argSlots s mp (k + 1) rs with
    | none => rw [q] at e; cases e
    | some l =>
      rw [q] at e
      have hl := argSlots_len q
      cases r with
      | val x => cases e; simp [hl]
      | frs x => cases e; simp [hl]
      | bor i =>
        dsimp only at e
        split at e
        · split at e
          · cases e; simp [hl]
          · cases e
        · cases e
/-- what stands in a slot for an argument -/
def SlotFor (p : Sg) : RV → Slot → Prop
  | .val x, sl => sl = .pv x
  | .frs x, sl => sl = .own false x
  | .bor i, sl => ∃ t x, p[i]? = some (.own t x) ∧ sl = .own false x
theorem argSlots_at {s : Sg} {mp : List Nat} : ∀ {rs : List RV} {k : Nat} {as : Sg} {i : Nat} {r : RV}, argSlots s mp k rs = some as → rs[i]? = some r → ∃ sl, as[i]? = some sl ∧ SlotFor s r sl
  | [], _, _, _, _, _, e => by simp at e
  | r :: rs, k, as, i, r', e, ei => by
    unfold argSlots at e
    cases q : argSlots s mp (k + 1) rs with
    | none => rw [q] at e; cases e
    | some l =>
      rw [q] at e
      have rest : ∀ (sl0 : Slot), SlotFor s r sl0 → as = sl0 :: l → ∃ sl, as[i]? = some sl ∧ SlotFor s r' sl := by
        intro sl0 h0 ea
        subst ea
        cases i with
        | zero => simp at ei; subst ei; exact ⟨sl0, by simp, h0⟩
        | succ i => obtain ⟨sl, h1, h2⟩ := argSlots_at q (by simpa using ei); exact ⟨sl, by simpa using h1, h2⟩
      cases r with
      | val x => exact rest _ rfl (Option.some.inj e).symm
      | frs x => exact rest _ rfl (Option.some.inj e).symm
      | bor j =>
        dsimp only at e
        split at e
        · split at e
          · rename_i t x hs
            exact rest _ ⟨_, _, hs, rfl⟩ (Option.some.inj e).symm
          · cases e
        · cases e
theorem RRepL.at {H0 : Hp} : ∀ {rs : List RV} {vs : List V} {i : Nat} {r : RV}, RRepL C z H0 H p σ rs vs → rs[i]? = some r → ∃ v, vs[i]? = some v ∧ RRep C z H0 H p σ r v := by
  intro rs vs i r h
  induction h generalizing i with
  | nil => intro e; simp at e
  | cons a b c ih =>
    intro e
    cases i with
    | zero => simp at e; subst e; exact ⟨_, rfl, a⟩
    | succ i => obtain ⟨v, h1, h2⟩ := ih (by simpa using e); exact ⟨v, by simpa using h1, h2⟩
theorem bors_mem : ∀ {rs : List RV} {i : Nat}, i ∈ bors rs ↔ ∃ k : Nat, rs[k]? = some (RV.bor i)
  | [], i => by simp [bors]
  | r :: rs, i => by
    have ih := @bors_mem rs i
    cases r with
    | bor j =>
      simp only [bors, List.mem_cons, ih]
      constructor
      · rintro (rfl | ⟨k, hk⟩)
        · exact ⟨0, rfl⟩
        · exact ⟨k + 1, by simpa using hk⟩
      · rintro ⟨k, hk⟩
        cases k with
        | zero => simp at hk; exact .inl hk.symm
        | succ k => exact .inr ⟨k, by simpa using hk⟩
    | val x =>
      simp only [bors, ih]
      constructor
      · rintro ⟨k, hk⟩; exact ⟨k + 1, by simpa using hk⟩
      · rintro ⟨k, hk⟩
        cases k with
        | zero => simp at hk
        | succ k => exact ⟨k, by simpa using hk⟩
    | frs x =>
      simp only [bors, ih]
      constructor
      · rintro ⟨k, hk⟩; exact ⟨k + 1, by simpa using hk⟩
      · rintro ⟨k, hk⟩
        cases k with
        | zero => simp at hk
        | succ k => exact ⟨k, by simpa using hk⟩
theorem bors_inj : ∀ {rs : List RV} {i k l : Nat}, (bors rs).Nodup → rs[k]? = some (.bor i) → rs[l]? = some (.bor i) → k = l
  | [], _, _, _, _, e, _ => by simp at e
  | r :: rs, i, k, l, nd, e1, e2 => by
    have tl : (bors rs).Nodup := by
      cases r <;> first | exact nd | exact (List.nodup_cons.mp nd).2
    cases k with
    | zero =>
      cases l with
      | zero => rfl
      | succ l =>
        simp at e1 e2; subst e1
        exact absurd (bors_mem.mpr ⟨l, e2⟩) (List.nodup_cons.mp nd).1
    | succ k =>
      cases l with
      | zero =>
        simp at e1 e2; subst e2
        exact absurd (bors_mem.mpr ⟨k, e1⟩) (List.nodup_cons.mp nd).1
      | succ l => exact congrArg Nat.succ (bors_inj tl (by simpa using e1) (by simpa using e2))
theorem frs_inj {H0 : Hp} : ∀ {rs : List RV} {vs : List V} {i j : Nat} {x y : PV} {a : Addr}, RRepL C z H0 H p σ rs vs → rs[i]? = some (.frs x) → rs[j]? = some (.frs y) → vs[i]? = some (.ref a) → vs[j]? = some (.ref a) → i = j := by
  intro rs vs i j x y a h
  induction h generalizing i j with
  | nil => intro e; simp at e
  | @cons r v rs vs hr hrs hd ih =>
    intro e1 e2 e3 e4
    cases i with
    | zero =>
      cases j with
      | zero => rfl
      | succ j =>
        simp at e1 e2 e3 e4
        exact absurd ⟨j, y, e2, e4⟩ (hd x a e1 e3)
    | succ i =>
      cases j with
      | zero =>
        simp at e1 e2 e3 e4
        exact absurd ⟨i, x, e1, e3⟩ (hd y a e2 e4)
      | succ j => exact congrArg Nat.succ (ih (by simpa using e1) (by simpa using e2) (by simpa using e3) (by simpa using e4))
theorem gb_len : ∀ (rs : List RV) (as s : Sg), (giveBack rs as s).length = s.length
  | [], _, _ => by unfold giveBack; rfl
  | .bor i :: rs, a :: as, s => by unfold giveBack; rw [gb_len rs as]; simp
  | .bor i :: rs, [], s => by unfold giveBack; rfl
  | .val _ :: rs, _ :: as, s => by unfold giveBack; exact gb_len rs as s
  | .val _ :: rs, [], s => by unfold giveBack; rfl
  | .frs _ :: rs, _ :: as, s => by unfold giveBack; exact gb_len rs as s
  | .frs _ :: rs, [], s => by unfold giveBack; rfl
theorem gb_other : ∀ (rs : List RV) (as s : Sg) (j : Nat), j ∉ bors rs → (giveBack rs as s)[j]? = s[j]?
  | [], _, _, _, _ => by unfold giveBack; rfl
  | .bor i :: rs, a :: as, s, j, h => by
    unfold giveBack
    simp only [bors, List.mem_cons, not_or] at h
    rw [gb_other rs as _ j h.2, List.getElem?_set_ne (Ne.symm h.1)]
  | .bor i :: rs, [], s, _, _ => by unfold giveBack; rfl
  | .val _ :: rs, _ :: as, s, j, h => by unfold giveBack; exact gb_other rs as s j h
  | .val _ :: rs, [], s, _, _ => by unfold giveBack; rfl
  | .frs _ :: rs, _ :: as, s, j, h => by unfold giveBack; exact gb_other rs as s j h
  | .frs _ :: rs, [], s, _, _ => by unfold giveBack; rfl
theorem gb_bor : ∀ (rs : List RV) (as s : Sg) (j k : Nat) (a : Slot), (bors rs).Nodup → rs[k]? = some (.bor j) → as[k]? = some a → j < s.length → (giveBack rs as s)[j]? = some a
  | [], _, _, _, _, _, _, e, _, _ => by simp at e
  | _ :: _, [], _, _, _, _, _, _, e, _ => by simp at e
  | r :: rs, b :: as, s, j, 0, a, nd, e1, e2, hj => by
    simp at e1 e2
    subst e1 e2
    unfold giveBack
    rw [gb_other rs as _ j (List.nodup_cons.mp nd).1, List.getElem?_set_self hj]
  | .bor i :: rs, b :: as, s, j, k + 1, a, nd, e1, e2, hj => by
    unfold giveBack
    exact gb_bor rs as _ j k a (List.nodup_cons.mp nd).2 (by simpa using e1) (by simpa using e2) (by simpa using hj)
  | .val _ :: rs, b :: as, s, j, k + 1, a, nd, e1, e2, hj => by
    unfold giveBack
    exact gb_bor rs as s j k a nd (by simpa using e1) (by simpa using e2) hj
  | .frs _ :: rs, b :: as, s, j, k + 1, a, nd, e1, e2, hj => by
    unfold giveBack
    exact gb_bor rs as s j k a nd (by simpa using e1) (by simpa using e2) hj
theorem map_some_at {vs : List V} {i : Nat} {v : V} : (vs.map some)[i]? = some (some v) ↔ vs[i]? = some v := by
  rw [List.getElem?_map]
  cases vs[i]? <;> simp
/-- the callee's slots -/
theorem args_rel {H0 : Hp} {rs : List RV} {vs : List V} {mp : List Nat} {asl : Sg} {ds : List PV} {dvs : List V} (s : SRel C L z H p σ) (rr : RRepL C z H0 H p σ rs vs) (nd : (bors rs).Nodup)
    (ea : argSlots p mp 0 rs = some asl) (rd : RepL C z H ds dvs) : SRel C ⟨[], H⟩ z H (asl ++ ds.map Slot.pv) ((vs ++ dvs).map some) := by
  have l1 := argSlots_len ea
  have l2 := rr.length
  have l3 := rd.length
  have at1 : ∀ (i : Nat) (sl : Slot), (asl ++ ds.map Slot.pv)[i]? = some sl → (i < rs.length ∧ ∃ r v, rs[i]? = some r ∧ vs[i]? = some v ∧ RRep C z H0 H p σ r v ∧ SlotFor p r sl ∧ ((vs ++ dvs).map some)[i]? = some (some v)) ∨ ∃ x v, sl = .pv x ∧ Rep C z H x v ∧ ((vs ++ dvs).map some)[i]? = some (some v) := by
    intro i sl e
    by_cases hi : i < asl.length
    · rw [List.getElem?_append_left hi] at e
      have hr : i < rs.length := by omega
      obtain ⟨sl', h1, h2⟩ := argSlots_at ea (List.getElem?_eq_getElem hr)
      rw [e] at h1; cases h1
      obtain ⟨v, h3, h4⟩ := rr.at (List.getElem?_eq_getElem hr)
      refine .inl ⟨hr, _, v, List.getElem?_eq_getElem hr, h3, h4, h2, ?_⟩
      rw [map_some_at, List.getElem?_append_left (by omega)]; exact h3
    · rw [List.getElem?_append_right (by omega), List.getElem?_map] at e
      obtain ⟨x, e1, e2⟩ := Option.map_eq_some_iff.mp e
      obtain ⟨v, h1, h2⟩ := rd.get e1
      refine .inr ⟨x, v, e2.symm, h2, ?_⟩
      rw [map_some_at, List.getElem?_append_right (by omega)]
      rw [show i - vs.length = i - asl.length by omega]; exact h1
  refine ⟨by simp; omega, s.zt, fun _ e => e, fun i x e => ?_, fun i t x e => ?_, fun i j t u x y a e1 e2 e3 e4 => ?_, fun _ q => by cases q⟩
  · rcases at1 i _ e with ⟨_, r, v, _, _, h3, h4, h5⟩ | ⟨y, v, e1, h2, h3⟩
    · cases r with
      | val y => cases h4; cases h3 with | val h => exact ⟨v, h5, h⟩
      | frs y => cases h4
      | bor j => obtain ⟨_, _, _, q⟩ := h4; cases q
    · cases e1; exact ⟨v, h3, h2⟩
  · rcases at1 i _ e with ⟨_, r, v, _, _, h3, h4, h5⟩ | ⟨y, v, e1, h2, h3⟩
    · cases r with
      | val y => cases h4
      | frs y => cases h4; cases h3 with | frs q1 q2 q3 q4 q5 q6 => exact ⟨_, _, h5, q2, q4, q5, q6, fun q => by cases q⟩
      | bor j =>
        obtain ⟨t', y, q1, q2⟩ := h4
        cases q2
        cases h3 with
        | bor h3 =>
          obtain ⟨a, o, g1, g2, g3, g4, g5, _⟩ := s.ow j _ _ q1
          rw [h3] at g1; cases g1
          exact ⟨a, o, h5, g2, g3, g4, g5, fun q => by cases q⟩
    · cases e1
  · rcases at1 i _ e1 with ⟨hi, r, v, r1, v1, h3, h4, h5⟩ | ⟨_, _, q, _⟩
    · rcases at1 j _ e2 with ⟨hj, r', v', r1', v1', h3', h4', h5'⟩ | ⟨_, _, q, _⟩
      · rw [e3] at h5; cases h5
        rw [e4] at h5'; cases h5'
        cases r with
        | val y => cases h4
        | frs y =>
          cases r' with
          | val y => cases h4'
          | frs y' => exact frs_inj rr r1 r1' v1 v1'
          | bor j' =>
            obtain ⟨t', y, q1, q2⟩ := h4'
            cases h3' with
            | bor h3' => cases h3 with | frs _ _ q3 _ _ _ => exact absurd ⟨j', _, _, q1, h3'⟩ q3
        | bor i' =>
          obtain ⟨t', y, q1, q2⟩ := h4
          cases h3 with
          | bor h3 =>
            cases r' with
            | val y => cases h4'
            | frs y' => cases h3' with | frs _ _ q3 _ _ _ => exact absurd ⟨i', _, _, q1, h3⟩ q3
            | bor j' =>
              obtain ⟨t2, y2, q1', q2'⟩ := h4'
              cases h3' with
              | bor h3' =>
                have := s.dj i' j' _ _ _ _ _ q1 q1' h3 h3'
                subst this
                exact bors_inj nd r1 r1'
      · cases q
    · cases q
/-- behind a call: the caller's state -/
theorem go_call {z0 : As} {H0 : Hp} {p0 : Sg} {rs : List RV} {vs : List V} {mp : List Nat} {asl as' : Sg} {ds : List PV} {dvs : List V} (s : SRel C L z0 H0 p0 σ) (g1 : Go C L z0 H0 p0 σ z H p σ) (rr : RRepL C z H0 H p σ rs vs) (nd : (bors rs).Nodup)
    (ea : argSlots p mp 0 rs = some asl) (rd : RepL C z H ds dvs) (g2 : Go C ⟨[], H⟩ z H (asl ++ ds.map Slot.pv) ((vs ++ dvs).map some) z' H' as' ((vs ++ dvs).map some)) :
    Go C L z0 H0 p0 σ z' H' (giveBack rs as' p) σ ∧ ∀ a, Own (giveBack rs as' p) σ a → Own p σ a := by
  have sa := args_rel g1.rel rr nd ea rd
  have l1 := argSlots_len ea
  have l2 := rr.length
  have sq := g1.rel
  -- what the callee may change: borrowed lists, new ones
  have ownA : ∀ a, Own (asl ++ ds.map Slot.pv) ((vs ++ dvs).map some) a → Own p σ a ∨ (H0 a = none ∧ ¬ Own p σ a) := by
    rintro a ⟨i, t, x, e1, e2⟩
    by_cases hi : i < asl.length
    · rw [List.getElem?_append_left hi] at e1
      have hr : i < rs.length := by omega
      obtain ⟨sl', h1, h2⟩ := argSlots_at ea (List.getElem?_eq_getElem hr)
      rw [e1] at h1; cases h1
      obtain ⟨v, h3, h4⟩ := rr.at (List.getElem?_eq_getElem hr)
      rw [map_some_at, List.getElem?_append_left (by omega), h3] at e2
      cases e2
      generalize hrr : rs[i] = r at h2 h4
      cases r with
      | val y => cases h2
      | frs y => cases h4 with | frs q1 q2 q3 _ _ _ => exact .inr ⟨q1, q3⟩
      | bor j =>
        obtain ⟨t', y, q1, q2⟩ := h2
        cases h4 with | bor h4 => exact .inl ⟨j, t', y, q1, h4⟩
    · rw [List.getElem?_append_right (by omega), List.getElem?_map] at e1
      obtain ⟨_, _, q⟩ := Option.map_eq_some_iff.mp e1
      cases q
  -- a slot behind the call
  have slotB : ∀ (j : Nat) (sl : Slot), (giveBack rs as' p)[j]? = some sl → (j ∉ bors rs ∧ p[j]? = some sl) ∨ ∃ k : Nat, rs[k]? = some (RV.bor j) ∧ as'[k]? = some sl ∧ ∃ v : V, σ[j]? = some (some v) ∧ ((vs ++ dvs).map some)[k]? = some (some v) ∧ ∃ (t : Bool) (x : PV), p[j]? = some (Slot.own t x) := by
    intro j sl e
    by_cases hj : j ∈ bors rs
    · obtain ⟨k, hk⟩ := bors_mem.mp hj
      have hkr : k < rs.length := (List.getElem?_eq_some_iff.mp hk).1
      obtain ⟨sl', h1, t, x, h2, h3⟩ := argSlots_at ea hk
      obtain ⟨v, h4, h5⟩ := rr.at hk
      have hjl : j < p.length := (List.getElem?_eq_some_iff.mp h2).1
      have la : as'.length = ((vs ++ dvs).map some).length := g2.rel.len
      have hka : k < as'.length := by rw [la]; simp; omega
      have e2 := gb_bor rs as' p j k as'[k] nd hk (List.getElem?_eq_getElem hka) hjl
      rw [e] at e2
      have e3 : sl = as'[k] := Option.some.inj e2
      subst e3
      cases h5 with
      | bor h5 => exact .inr ⟨k, hk, List.getElem?_eq_getElem hka, v, h5, by rw [map_some_at, List.getElem?_append_left (by omega)]; exact h4, t, x, h2⟩
    · rw [gb_other rs as' p j hj] at e
      exact .inl ⟨hj, e⟩
  have mok := sa.mok
  have keep1 : ∀ a o, H a = some o → ¬ Own (asl ++ ds.map Slot.pv) ((vs ++ dvs).map some) a → H' a = some o := g2.stp.keep
  have ownB : ∀ a, Own (giveBack rs as' p) σ a → Own p σ a := by
    rintro a ⟨j, t, x, e1, e2⟩
    rcases slotB j _ e1 with ⟨_, q⟩ | ⟨k, _, _, v, q1, _, t', y, q2⟩
    · exact ⟨j, t, x, q, e2⟩
    · exact ⟨j, t', y, q2, e2⟩
  -- a list of the caller that was not lent
  have notLent : ∀ (j : Nat) (t : Bool) (x : PV) (a : Addr), j ∉ bors rs → p[j]? = some (.own t x) → σ[j]? = some (some (.ref a)) → ¬ Own (asl ++ ds.map Slot.pv) ((vs ++ dvs).map some) a := by
    rintro j t x a hj e1 e2 ⟨i, u, y, e3, e4⟩
    by_cases hi : i < asl.length
    · rw [List.getElem?_append_left hi] at e3
      have hr : i < rs.length := by omega
      obtain ⟨sl', h1, h2⟩ := argSlots_at ea (List.getElem?_eq_getElem hr)
      rw [e3] at h1; cases h1
      obtain ⟨v, h3, h4⟩ := rr.at (List.getElem?_eq_getElem hr)
      rw [map_some_at, List.getElem?_append_left (by omega), h3] at e4
      cases e4
      have hrr : rs[i]? = some rs[i] := List.getElem?_eq_getElem hr
      generalize rs[i] = r at h2 h4 hrr
      cases r with
      | val y => cases h2
      | frs y => cases h4 with | frs _ _ q3 _ _ _ => exact q3 ⟨j, t, x, e1, e2⟩
      | bor j' =>
        obtain ⟨t', y', q1, _⟩ := h2
        cases h4 with
        | bor h4 =>
          have := sq.dj j j' _ _ _ _ _ e1 q1 e2 h4
          subst this
          exact hj (bors_mem.mpr ⟨i, hrr⟩)
    · rw [List.getElem?_append_right (by omega), List.getElem?_map] at e3
      obtain ⟨_, _, q⟩ := Option.map_eq_some_iff.mp e3
      cases q
  refine ⟨⟨⟨by rw [gb_len]; exact sq.len, g2.rel.zt, fun a e => sq.h0 a (g2.stp.there a e), fun j x e => ?_, fun j t x e => ?_, fun i j t u x y a e1 e2 e3 e4 => ?_, sq.mp⟩, ⟨fun a o e n => ?_, fun a e => g1.stp.there a (g2.stp.there a e), fun a e n => ?_, fun a e => ?_⟩, fun a e => ?_⟩, ownB⟩
  · rcases slotB j _ e with ⟨_, q⟩ | ⟨k, _, q, v, q1, q2, _⟩
    · obtain ⟨v, h1, h2⟩ := sq.pv j x q
      exact ⟨v, h1, h2.step g2.stp mok⟩
    · obtain ⟨w, h1, h2⟩ := g2.rel.pv k x q
      rw [q2] at h1; cases h1
      exact ⟨v, q1, h2⟩
  · rcases slotB j _ e with ⟨nj, q⟩ | ⟨k, _, q, v, q1, q2, t', y', q3⟩
    · obtain ⟨a, o, h1, h2, h3, h4, h5, h6⟩ := sq.ow j t x q
      have nl := notLent j t x a nj q h1
      exact ⟨a, o, h1, g2.stp.priv a h2 nl, keep1 a o h3 nl, h4, h5.step g2.stp mok fun b eb => by cases eb; exact nl, h6⟩
    · obtain ⟨a, o, h1, h2, h3, h4, h5, h6⟩ := g2.rel.ow k t x q
      rw [q2] at h1; cases h1
      refine ⟨a, o, q1, h2, h3, h4, h5, fun ht => ?_⟩
      have := h6 ht
      obtain ⟨a', o', g1', _, g3', _⟩ := sq.ow j t' y' q3
      rw [q1] at g1'; cases g1'
      rw [show H a = none from this] at g3'; cases g3'
  · have own1 : ∀ (j : Nat) (t : Bool) (x : PV), (giveBack rs as' p)[j]? = some (.own t x) → ∃ (t' : Bool) (x' : PV), p[j]? = some (Slot.own t' x') := fun j t x e => by
      rcases slotB j _ e with ⟨_, q⟩ | ⟨_, _, _, _, _, _, t', y, q⟩
      · exact ⟨_, _, q⟩
      · exact ⟨_, _, q⟩
    obtain ⟨t', x', q1⟩ := own1 _ _ _ e1
    obtain ⟨u', y', q2⟩ := own1 _ _ _ e2
    exact sq.dj i j _ _ _ _ a q1 q2 e3 e4
  · have nh : H0 a ≠ none := by rw [e]; intro z; cases z
    refine keep1 a o (g1.stp.keep a o e n) fun q => ?_
    rcases ownA a q with q | q
    · rcases g1.own a q with q | q
      · exact n q
      · exact nh q
    · exact nh q.1
  · have nh : H0 a ≠ none := s.zt a e
    refine g2.stp.priv a (g1.stp.priv a e n) fun q => ?_
    rcases ownA a q with q | q
    · rcases g1.own a q with q | q
      · exact n q
      · exact nh q
    · exact nh q.1
  · rcases g2.stp.new a e with q | q
    · exact g1.stp.new a q
    · exact .inr (g1.stp.there a q)
  · exact g1.own a (ownB a e)
end
end Mp

/-! MpH: the rule of a call. -/
namespace Mp
open PySem PySem.Spec PyProof.Rows L2

/-- where a body of the text runs -/
structure XOk (C : Ctx) (W : WX) (k : Nat) (X : Cx) (N : List Str) (sc : Scope) : Prop where
  prog : X.prog = C.P
  w : X.w = C.w
  K : X.K = C.K
  mg : X.mg = C.mg
  base : X.base = C.base
  names : X.N = N
  nd : N.Nodup
  sc : X.env.scope = sc
  calm : X.calm = true
  room : Room k X.A
  gd : X.A.guards = some []
  tk : Takes X W
  po : PassesOwn (model X.prog X.w) X.A X.env X.xe
  gv : ∀ g v, C.gv g = some v → ∃ f, v = .ref f
section
variable {C : Ctx} {L : Act} {W : WX} {X : Cx} {N : List Str} {sc : Scope} {k : Nat}
theorem XOk.hu (x : XOk C W k X N sc) : X.A.units + 65 < cLine := by
  have := x.room.un
  omega
theorem call_run {cl : Cl} {g : Nat} {d : Fd} {f : Addr} {fd : FuncData} {z z1 : As} {H H1 : Hp} {p p1 : Sg} {σ : L2.St} {rs : List RV} {vs : List V} {us : List Value} {Q : VK} {pins : List (Addr × Obj)} {s1 : Shared} (x : XOk C W k X N sc) (hd : C.tb g = some d)
    (F : FnG C k f fd (d.N.take d.np) (spOf C cl g d)) (hnp : (d.N.take d.np).length = d.np)
    (B : ∀ m, m ≤ d.np → d.np ≤ m + d.dfl.length → ∃ (dvs : List V) (ds : List Value), dvs.length + m = d.np ∧ (∀ z H, RepL C z H (d.dfl.drop (m + d.dfl.length - d.np)) dvs) ∧ Vals dvs ds ∧ L2.Binds C.K fd (d.N.take d.np) ds)
    (s : SRel C L z H p σ) (g1 : Go C L z H p σ z1 H1 p1 σ) (rr : RRepL C z1 H H1 p1 σ rs vs) (I : Inv X pins σ H1 s1) (r : Vals vs us)
    (q : OutE C L W (RRep C) σ z H p Q (callG cl C.tb g rs p1)) : wpAny (model X.prog X.w) X.A (call (.ref f) us) (EP X pins σ Q) X.xe s1 := by
  unfold callG at q
  rw [hd] at q
  dsimp only at q
  split at q
  · rename_i hc
    obtain ⟨h1, h2, nd⟩ := hc
    cases ea : argSlots p1 d.mp 0 rs with
    | none => rw [ea] at q; exact q.elim
    | some asl =>
      rw [ea] at q
      dsimp only at q
      obtain ⟨dvs, ds, hlen, hrep, hv, hb⟩ := B rs.length h1 h2
      have l1 := argSlots_len ea
      have l2 := rr.length
      have rd := hrep z1 H1
      have ld := rd.length
      have sa := args_rel g1.rel rr nd ea rd
      have hsp : spOf C cl g d (vs ++ dvs) H1 Q (fun cls dd H' => W cls dd σ H') := by
        refine ⟨z1, asl ++ (d.dfl.drop (rs.length + d.dfl.length - d.np)).map Slot.pv, ?_, ?_, sa, ?_⟩
        · rw [List.length_append, List.length_map, ld]; omega
        · rw [List.length_append]; omega
        · cases ec : cl g (asl ++ (d.dfl.drop (rs.length + d.dfl.length - d.np)).map Slot.pv) with
          | no => rw [ec] at q; exact q
          | er e as' =>
            rw [ec] at q
            exact fun cls dd H' z' g2 xr => q cls dd H' z' (go_call s g1 rr nd ea rd g2).1 xr
          | ok rv as' =>
            rw [ec] at q
            dsimp only at q
            intro v H' z' g2 rr2
            obtain ⟨g3, og⟩ := go_call s g1 rr nd ea rd g2
            cases hbr : isBor rv with
            | true => rw [hbr] at q; exact q.elim
            | false =>
              rw [hbr] at q
              refine q v H' z' g3 ?_
              cases rr2 with
              | val h => exact .val h
              | frs q1 q2 q3 q4 q5 q6 =>
                refine .frs (g1.stp.there _ q1) q2 (fun o => ?_) q4 q5 q6
                obtain ⟨i, t, y, e1, e2⟩ := og _ o
                obtain ⟨a', o', e3, _, e5, _⟩ := g1.rel.ow i t y e1
                rw [e2] at e3; cases e3
                rw [q1] at e5; cases e5
              | bor h => cases hbr
      have r2 : Vals (vs ++ dvs) (us ++ ds) := r.append hv
      have hl : (us ++ ds).length = (d.N.take d.np).length := by rw [← r2.length]; exact F.len _ _ _ _ hsp
      have xp := x.prog
      have xw := x.w
      have xK := x.K
      have xm := x.mg
      have xb := x.base
      have tk := x.tk
      have room := x.room
      have gd := x.gd
      clear x
      rcases X with ⟨P, w, K, mg, base, A, N', s0, H0', env, outer, stack, ex, fn, calm, pn, xe⟩
      dsimp only at xp xw xK xm xb
      subst xp xw xK xm xb
      refine wpAny_call (codeAny_mono (F.run A stack s1 H1 ⟨us, []⟩ (us ++ ds) (vs ++ dvs) Q _ room gd I.env0 (hb s1 us I.kIn hl) r2 hsp) fun res s' hq => ?_)
      cases res with
      | error e => exact tk _ _ (XE.of_call I (fun cls dd H' h => h) hq)
      | ok fl =>
        cases fl with
        | ret u => exact I.after hq
        | next => exact False.elim hq
        | brk => exact False.elim hq
        | cont => exact False.elim hq
  · exact q.elim
theorem e_cal {cl : Cl} {g : Nat} {d : Fd} {e : Expr} {es : List Expr} {fl : Sg → Rs (List RV)} {p0 pos : Pos} (x : XOk C W k X N sc) (hd : C.tb g = some d) (D : DefOk C k cl g d) (hg : Gl X d.name) (hdb : (d.name == ("__debug__" : Str)) = false)
    (ha : PA X (e :: es) (tOfL C L W fl)) (he : starEach (e :: es) X.env = (false, eval e X.env) :: starEach es X.env) (hpl : (backTo pos (starEach es X.env)).any (·.1) = false) :
    PE X (.Call (.Name d.name p0) (e :: es) [] pos) (tOf C L W fun s => (fl s).bind fun rs s1 => callG cl C.tb g rs s1) := by
  refine ⟨fun pins s0 σ H Q I ⟨z, p, s, q⟩ => ?_⟩
  obtain ⟨f, fd, hm, hk, F, hnp, B⟩ := D.ex
  refine wpAny_Call_Name_kw (ld_glob I hg (by rw [x.mg]; exact hm) ?_ hdb)
  refine PySem.W.callWith_K (h₀ := X.base) I.ok.mod.kin (by rw [x.K]; exact hk) (thn (ha.run pos pins s0 σ H (fun vs H1 => ∃ z1 p1 rs, Go C L z H p σ z1 H1 p1 σ ∧ RRepL C z1 H H1 p1 σ rs vs ∧ OutE C L W (RRep C) σ z H p Q (callG cl C.tb g rs p1)) I ⟨z, p, s, ?_⟩) fun us s1 ⟨vs, H1, I1, r, z1, p1, rs, g1, rr, q1⟩ => ⟨I1.kIn, ?_⟩) he hpl
  · dsimp only at q
    cases e1 : fl p with
    | no => rw [e1] at q; exact q
    | er y p1 => rw [e1] at q; exact q
    | ok rs p1 =>
      rw [e1] at q
      exact fun vs H1 z1 g1 rr => ⟨z1, p1, rs, g1, rr, q⟩
  · exact call_run x hd F hnp B s g1 rr I1 r q1
theorem e_cal0 {cl : Cl} {g : Nat} {d : Fd} {p0 pos : Pos} (x : XOk C W k X N sc) (hd : C.tb g = some d) (D : DefOk C k cl g d) (hg : Gl X d.name) (hdb : (d.name == ("__debug__" : Str)) = false) :
    PE X (.Call (.Name d.name p0) [] [] pos) (tOf C L W fun s => (Rs.ok ([] : List RV) s).bind fun rs s1 => callG cl C.tb g rs s1) := by
  refine ⟨fun pins s0 σ H Q I ⟨z, p, s, q⟩ => ?_⟩
  obtain ⟨f, fd, hm, hk, F, hnp, B⟩ := D.ex
  refine wpAny_Call_Name_kw (ld_glob I hg (by rw [x.mg]; exact hm) ?_ hdb)
  exact PySem.W.callWith_K0 I.kIn (by rw [x.K]; exact hk) (call_run x hd F hnp B s (.refl s) .nil I .nil q)
end
end Mp

/-! MpL: targets, list comprehensions. -/
namespace Mp
open PySem PySem.Spec PyProof.Rows L2

section
variable {C : Ctx} {L : Act} {z z' : As} {H H' : Hp} {p p' : Sg} {σ σ' : L2.St}
/-- a tree is stored in a slot -/
theorem SRel.set {i : Nat} {x : PV} {v : V} (s : SRel C L z H p σ) (hi : i < p.length) (r : Rep C z H x v) (hm : i ∉ L.mp.map (·.1)) : SRel C L z H (p.set i (.pv x)) (σ.set i (some v)) := by
  have hi' : i < σ.length := by rw [← s.len]; exact hi
  have own' : ∀ {j : Nat} {u : Bool} {y : PV}, (p.set i (.pv x))[j]? = some (.own u y) → j ≠ i ∧ p[j]? = some (.own u y) := fun {j u y} q => by
    by_cases hj : i = j
    · subst hj; rw [List.getElem?_set_self hi] at q; cases q
    · rw [List.getElem?_set_ne hj] at q; exact ⟨Ne.symm hj, q⟩
  refine ⟨by simpa using s.len, s.zt, s.h0, fun j y e => ?_, fun j t y e => ?_, fun j k t u y y2 a e1 e2 e3 e4 => ?_, fun q hq => ?_⟩
  · by_cases hj : i = j
    · subst hj
      rw [List.getElem?_set_self hi] at e; cases e
      exact ⟨v, List.getElem?_set_self hi', r⟩
    · rw [List.getElem?_set_ne hj] at e ⊢
      exact s.pv j y e
  · obtain ⟨hj, e'⟩ := own' e
    rw [List.getElem?_set_ne (Ne.symm hj)]
    exact s.ow j t y e'
  · obtain ⟨hj, e1'⟩ := own' e1
    obtain ⟨hk, e2'⟩ := own' e2
    rw [List.getElem?_set_ne (Ne.symm hj)] at e3
    rw [List.getElem?_set_ne (Ne.symm hk)] at e4
    exact s.dj j k t u y y2 a e1' e2' e3 e4
  · rw [List.getElem?_set_ne fun e => hm (List.mem_map.mpr ⟨q, hq, e.symm⟩)]
    exact s.mp q hq
theorem own_set {i : Nat} {x : PV} {v : V} {a : Addr} (hi : i < p.length) : Own (p.set i (.pv x)) (σ.set i (some v)) a → Own p σ a := by
  rintro ⟨j, t, y, e1, e2⟩
  by_cases hj : i = j
  · subst hj; rw [List.getElem?_set_self hi] at e1; cases e1
  · rw [List.getElem?_set_ne hj] at e1 e2; exact ⟨j, t, y, e1, e2⟩
end
section
variable {C : Ctx} {L : Act} {W : WX} {X : Cx} {N : List Str} {sc : Scope} {k : Nat}
/-- a target's reading -/
def gOf (C : Ctx) (L : Act) (tg : Tg) : TG := fun v σ H Q => ∃ z p x, SRel C L z H p σ ∧ Rep C z H x v ∧ match tg.store x p with
  | some p' => ∀ σ', SRel C L z H p' σ' → (∀ a, Own p' σ' a → Own p σ a) → (∀ j, j ∉ tg.slots → σ'[j]? = σ[j]?) → Q σ' H
  | none => False
def gsOf (C : Ctx) (L : Act) (ts : List Tg) : TGs := fun vs σ H Q => ∃ z p xs, SRel C L z H p σ ∧ RepL C z H xs vs ∧ match Tg.storeL ts xs p with
  | some p' => ∀ σ', SRel C L z H p' σ' → (∀ a, Own p' σ' a → Own p σ a) → (∀ j, j ∉ Tg.slotsL ts → σ'[j]? = σ[j]?) → Q σ' H
  | none => False
theorem g_nm {i : Nat} {x : Str} {pos : Pos} (h : PG X (.Name x pos) (gName i)) (hm : i ∉ L.mp.map (·.1)) : PG X (.Name x pos) (gOf C L (.nm i)) := by
  refine PG.imp h ?_
  rintro v σ H Q ⟨z, p, y, s, r, q⟩
  unfold Tg.store at q
  split at q
  · rename_i p' e
    split at e
    · rename_i hi
      cases e
      exact q _ (s.set hi r hm) (fun a => own_set hi) fun j hj => List.getElem?_set_ne fun e => hj (by simp [Tg.slots, e])
    · cases e
  · exact q.elim
theorem gs_nil : PGs X [] (gsOf C L []) := by
  have h : PGs X [] gNil := pgs_nil
  refine ⟨fun pins s0 σ H vs us Q I r q => h.run pins s0 σ H vs us Q I r ?_⟩
  obtain ⟨z, p, xs, s, rp, q⟩ := q
  cases xs with
  | nil => cases rp; exact ⟨rfl, q σ s (fun _ e => e) fun _ _ => rfl⟩
  | cons => exact q.elim
theorem gs_cons {e : Expr} {es : List Expr} {t : Tg} {ts : List Tg} (h1 : PG X e (gOf C L t)) (h2 : PGs X es (gsOf C L ts)) (hs : (assignEach (e :: es) X.env).map (·.2) = assign e X.env :: (assignEach es X.env).map (·.2)) : PGs X (e :: es) (gsOf C L (t :: ts)) := by
  have h := pgs_cons h1 h2 hs
  refine ⟨fun pins s0 σ H vs us Q I r q => h.run pins s0 σ H vs us Q I r ?_⟩
  obtain ⟨z, p, xs, s, rp, q⟩ := q
  cases rp with
  | nil => exact q.elim
  | @cons x v xs vs rx rxs =>
    refine ⟨v, vs, rfl, z, p, x, s, rx, ?_⟩
    unfold Tg.storeL at q
    cases e1 : t.store x p with
    | none => rw [e1] at q; exact q
    | some p1 =>
      rw [e1] at q
      refine fun σ1 s1 o1 k1 => ⟨z, p1, xs, s1, rxs, ?_⟩
      dsimp only at q
      cases e2 : Tg.storeL ts xs p1 with
      | none => rw [e2] at q; exact q
      | some p2 =>
        rw [e2] at q
        exact fun σ2 s2 o2 k2 => q σ2 s2 (fun a o => o1 a (o2 a o)) fun j hj => by
          simp only [Tg.slotsL, List.mem_append, not_or] at hj
          rw [k2 j hj.2, k1 j hj.1]
theorem storeL_len : ∀ (ts : List Tg) (xs : List PV) (p p' : Sg), Tg.storeL ts xs p = some p' → xs.length = ts.length
  | [], [], _, _, _ => rfl
  | [], _ :: _, _, _, e => by simp [Tg.storeL] at e
  | _ :: _, [], _, _, e => by simp [Tg.storeL] at e
  | t :: ts, x :: xs, p, p', e => by
    unfold Tg.storeL at e
    split at e
    · rename_i p1 _; simp [storeL_len ts xs p1 p' e]
    · cases e
theorem g_tp {es : List Expr} {ts : List Tg} {kk : Nat} {pos : Pos} (hK : X.K = C.K) (hc : X.calm = true) (h : PGs X es (gsOf C L ts)) (hn : (assignEach es X.env).length = ts.length) (hst : (assignEach es X.env).findIdx? (·.1) = none) : PG X (.Tuple es kk pos) (gOf C L (.tp ts)) := by
  refine PG.imp (pg_tup (n := ts.length) hc h hn hst) ?_
  rintro v σ H Q ⟨z, p, y, s, r, q⟩
  cases y with
  | tup xs =>
    cases r with
    | @tup a _ vs sq rl =>
      unfold Tg.store at q
      refine ⟨a, vs, rfl, by rw [hK]; exact sq, ?_, z, p, xs, s, rl, ?_⟩
      · split at q
        · rename_i p' e; rw [← rl.length]; exact storeL_len _ _ _ _ e
        · exact q.elim
      · exact q
  | _ => exact q.elim
end
end Mp
namespace Mp
mutual
theorem store_len : ∀ (t : Tg) (x : PV) (p p' : Sg), t.store x p = some p' → p'.length = p.length
  | .nm i, x, p, p', e => by
    unfold Tg.store at e
    split at e
    · cases e; simp
    · cases e
  | .tp ts, .tup xs, p, p', e => storeL_len2 ts xs p p' (by unfold Tg.store at e; exact e)
  | .tp ts, .non, p, p', e => by simp [Tg.store] at e
  | .tp ts, .bl _, p, p', e => by simp [Tg.store] at e
  | .tp ts, .int _, p, p', e => by simp [Tg.store] at e
  | .tp ts, .str _, p, p', e => by simp [Tg.store] at e
  | .tp ts, .lst _, p, p', e => by simp [Tg.store] at e
  | .tp ts, .ty _, p, p', e => by simp [Tg.store] at e
  | .tp ts, .fn _, p, p', e => by simp [Tg.store] at e
  | .tp ts, .frz _, p, p', e => by simp [Tg.store] at e
theorem storeL_len2 : ∀ (ts : List Tg) (xs : List PV) (p p' : Sg), Tg.storeL ts xs p = some p' → p'.length = p.length
  | [], [], p, p', e => by unfold Tg.storeL at e; cases e; rfl
  | [], _ :: _, _, _, e => by simp [Tg.storeL] at e
  | _ :: _, [], _, _, e => by simp [Tg.storeL] at e
  | t :: ts, x :: xs, p, p', e => by
    unfold Tg.storeL at e
    split at e
    · rename_i p1 e1; rw [storeL_len2 ts xs p1 p' e, store_len t x p p1 e1]
    · cases e
end
end Mp

/-! MpM: list comprehensions. -/
namespace Mp
open PySem PySem.Spec PyProof.Rows L2

section
theorem wipeP_len (p : Sg) : ∀ own, (wipeP p own).length = p.length
  | [] => rfl
  | v :: vs => by unfold wipeP; rw [List.length_set, wipeP_len p vs]
theorem wipeP_out {p : Sg} {i : Nat} : ∀ {own : List Nat}, i ∉ own → (wipeP p own)[i]? = p[i]?
  | [], _ => rfl
  | v :: vs, h => by
    simp only [List.mem_cons, not_or] at h
    unfold wipeP
    rw [List.getElem?_set_ne (Ne.symm h.1), wipeP_out h.2]
theorem wipeP_in {p : Sg} {i : Nat} {sl : Slot} : ∀ {own : List Nat}, i ∈ own → (wipeP p own)[i]? = some sl → sl = .un
  | [], h, _ => by cases h
  | v :: vs, h, e => by
    unfold wipeP at e
    by_cases hv : v = i
    · subst hv
      by_cases hl : v < (wipeP p vs).length
      · rw [List.getElem?_set_self hl] at e; cases e; rfl
      · rw [List.getElem?_eq_none (by simpa using hl)] at e; cases e
    · rw [List.getElem?_set_ne hv] at e
      rcases List.mem_cons.mp h with h | h
      · exact absurd h.symm hv
      · exact wipeP_in h e
theorem wipe_in {σ : L2.St} {i : Nat} : ∀ {own : List Nat}, i ∈ own → i < σ.length → (wipe σ own)[i]? = some none
  | [], h, _ => by cases h
  | v :: vs, h, hl => by
    unfold wipe
    by_cases hv : v = i
    · subst hv; rw [List.getElem?_set_self (by rw [wipe_length]; exact hl)]
    · rw [List.getElem?_set_ne hv]
      rcases List.mem_cons.mp h with h | h
      · exact absurd h.symm hv
      · exact wipe_in h hl
theorem wipe_ext {σ σ' : L2.St} {own : List Nat} (hl : σ'.length = σ.length) (h : ∀ j, j ∉ own → σ'[j]? = (wipe σ own)[j]?) : wipe σ' own = wipe σ own := by
  apply List.ext_getElem?
  intro i
  by_cases hi : i ∈ own
  · by_cases hs : i < σ.length
    · rw [wipe_in hi (by omega), wipe_in hi hs]
    · rw [List.getElem?_eq_none (by rw [wipe_length]; omega), List.getElem?_eq_none (by rw [wipe_length]; omega)]
  · rw [wipe_out hi, h i hi]
theorem backP_len (o s : Sg) : ∀ own, (backP o s own).length = s.length
  | [] => rfl
  | v :: vs => by unfold backP; rw [List.length_set, backP_len o s vs]
theorem backP_out {o s : Sg} {i : Nat} : ∀ {own : List Nat}, i ∉ own → (backP o s own)[i]? = s[i]?
  | [], _ => rfl
  | v :: vs, h => by
    simp only [List.mem_cons, not_or] at h
    unfold backP
    rw [List.getElem?_set_ne (Ne.symm h.1), backP_out h.2]
theorem backP_in {o s : Sg} {i : Nat} (hl : i < s.length) (ho : o.length = s.length) : ∀ {own : List Nat}, i ∈ own → (backP o s own)[i]? = o[i]?
  | [], h => by cases h
  | v :: vs, h => by
    unfold backP
    by_cases hv : v = i
    · subst hv
      rw [List.getElem?_set_self (by rw [backP_len]; exact hl), List.getElem?_eq_getElem (by omega)]
      rfl
    · rw [List.getElem?_set_ne hv]
      rcases List.mem_cons.mp h with h | h
      · exact absurd h.symm hv
      · exact backP_in hl ho h
end
section
variable {C : Ctx} {L : Act} {z z0 z1 z2 : As} {H H0 H1 H2 : Hp} {p p0 p1 p2 : Sg} {σ σ1 : L2.St} {own : List Nat}
theorem SRel.wipe (s : SRel C L z H p σ) (hm : ∀ i ∈ own, i ∉ L.mp.map (·.1)) : SRel C L z H (wipeP p own) (wipe σ own) := by
  have at1 : ∀ (i : Nat) (sl : Slot), (wipeP p own)[i]? = some sl → sl ≠ .un → i ∉ own ∧ p[i]? = some sl := fun i sl e n => by
    by_cases hi : i ∈ own
    · exact absurd (wipeP_in hi e) n
    · rw [wipeP_out hi] at e; exact ⟨hi, e⟩
  refine ⟨by rw [wipeP_len, wipe_length]; exact s.len, s.zt, s.h0, fun i x e => ?_, fun i t x e => ?_, fun i j t u x y a e1 e2 e3 e4 => ?_, fun q hq => ?_⟩
  · obtain ⟨hi, e'⟩ := at1 i _ e (by simp)
    rw [wipe_out hi]; exact s.pv i x e'
  · obtain ⟨hi, e'⟩ := at1 i _ e (by simp)
    rw [wipe_out hi]; exact s.ow i t x e'
  · obtain ⟨hi, e1'⟩ := at1 i _ e1 (by simp)
    obtain ⟨hj, e2'⟩ := at1 j _ e2 (by simp)
    rw [wipe_out hi] at e3
    rw [wipe_out hj] at e4
    exact s.dj i j t u x y a e1' e2' e3 e4
  · rw [wipe_out fun h => hm _ h (List.mem_map.mpr ⟨q, hq, rfl⟩)]
    exact s.mp q hq
theorem own_wipe {a : Addr} (h : Own (wipeP p own) (wipe σ own) a) : ∃ (i : Nat) (t : Bool) (x : PV), i ∉ own ∧ p[i]? = some (.own t x) ∧ σ[i]? = some (some (.ref a)) := by
  obtain ⟨i, t, x, e1, e2⟩ := h
  by_cases hi : i ∈ own
  · exact absurd (wipeP_in hi e1) (by simp)
  · rw [wipeP_out hi] at e1
    rw [wipe_out hi] at e2
    exact ⟨i, t, x, hi, e1, e2⟩
/-- a turn's end: the slots of the block's own names as they were -/
theorem turn_back (s : SRel C L z0 H0 p0 σ) (g : Go C L z0 H0 p0 σ z H p σ) (k : ∀ a o, H a = some o → H1 a = some o)
    (o1 : ∀ a, Own p1 σ1 a → Own (wipeP p own) (wipe σ own) a) (same : ∀ j, j ∉ own → σ1[j]? = σ[j]?) (hl : σ1.length = σ.length)
    (g2 : Go C L z H1 p1 σ1 z2 H2 p2 σ1) : Go C L z0 H0 p0 σ z2 H2 (backP p p2 own) σ := by
  have ge := g.ext k
  have sp := ge.rel
  have lp2 : p2.length = σ1.length := g2.rel.len
  have lp : p.length = σ.length := g.rel.len
  have at2 : ∀ (j : Nat) (sl : Slot), (backP p p2 own)[j]? = some sl → (j ∈ own ∧ p[j]? = some sl) ∨ (j ∉ own ∧ p2[j]? = some sl) := fun j sl e => by
    by_cases hj : j ∈ own
    · have hjl : j < p2.length := by
        have := (List.getElem?_eq_some_iff.mp e).1
        rw [backP_len] at this; exact this
      rw [backP_in hjl (by omega) hj] at e
      exact .inl ⟨hj, e⟩
    · rw [backP_out hj] at e; exact .inr ⟨hj, e⟩
  -- the block's own slots are not touched
  have apart : ∀ (j : Nat) (t : Bool) (x : PV) (a : Addr), j ∈ own → p[j]? = some (.own t x) → σ[j]? = some (some (.ref a)) → ¬ Own p1 σ1 a := fun j t x a hj e1 e2 q => by
    obtain ⟨i, t', x', hi, e3, e4⟩ := own_wipe (o1 a q)
    exact hi (sp.dj i j _ _ _ _ a e3 e1 e4 e2 ▸ hj)
  have m1 : MOk (Own p1 σ1) z H1 := ⟨fun a q => by
      obtain ⟨i, t, x, _, e3, e4⟩ := own_wipe (o1 a q)
      exact sp.mok.sub a ⟨i, t, x, e3, e4⟩, fun a q => by
      obtain ⟨i, t, x, _, e3, e4⟩ := own_wipe (o1 a q)
      exact sp.mok.wrt a ⟨i, t, x, e3, e4⟩⟩
  have ownUp : ∀ a, Own p1 σ1 a → Own p σ a := fun a q => by
    obtain ⟨i, t, x, _, e3, e4⟩ := own_wipe (o1 a q)
    exact ⟨i, t, x, e3, e4⟩
  have mid : Stp (Own p0 σ) z0 H0 z2 H2 := ge.stp.trans g2.stp (fun a q => ge.own a (ownUp a q)) s.zt
  refine ⟨⟨by rw [backP_len]; omega, g2.rel.zt, fun a e => sp.h0 a (g2.stp.there a e), fun j x e => ?_, fun j t x e => ?_, fun i j t u x y a e1 e2 e3 e4 => ?_, sp.mp⟩, mid, fun a q => ?_⟩
  · rcases at2 j _ e with ⟨_, e'⟩ | ⟨hj, e'⟩
    · obtain ⟨v, h1, h2⟩ := sp.pv j x e'
      exact ⟨v, h1, h2.step g2.stp m1⟩
    · rw [← same j hj]; exact g2.rel.pv j x e'
  · rcases at2 j _ e with ⟨hj, e'⟩ | ⟨hj, e'⟩
    · obtain ⟨a, o, h1, h2, h3, h4, h5, h6⟩ := sp.ow j t x e'
      have na := apart j t x a hj e' h1
      exact ⟨a, o, h1, g2.stp.priv a h2 na, g2.stp.keep a o h3 na, h4, h5.step g2.stp m1 fun b eb => by cases eb; exact na, h6⟩
    · rw [← same j hj]; exact g2.rel.ow j t x e'
  · have cross : ∀ (j m : Nat) (t u : Bool) (x y : PV), j ∈ own → m ∉ own → p[j]? = some (.own t x) → p2[m]? = some (.own u y) → σ[j]? = some (some (.ref a)) → σ[m]? = some (some (.ref a)) → False := fun j m t u x y hj hm e1 e2 e3 e4 => by
      have na := apart j t x a hj e1 e3
      rcases g2.own a ⟨m, u, y, e2, by rw [same m hm]; exact e4⟩ with q | q
      · exact na q
      · obtain ⟨a', o, h1, _, h3, _⟩ := sp.ow j t x e1
        rw [e3] at h1; cases h1
        rw [q] at h3; cases h3
    rcases at2 i _ e1 with ⟨hi, e1'⟩ | ⟨hi, e1'⟩
    · rcases at2 j _ e2 with ⟨hj, e2'⟩ | ⟨hj, e2'⟩
      · exact sp.dj i j t u x y a e1' e2' e3 e4
      · exact (cross i j t u x y hi hj e1' e2' e3 e4).elim
    · rcases at2 j _ e2 with ⟨hj, e2'⟩ | ⟨hj, e2'⟩
      · exact (cross j i u t y x hj hi e2' e1' e4 e3).elim
      · exact g2.rel.dj i j t u x y a e1' e2' (by rw [same i hi]; exact e3) (by rw [same j hj]; exact e4)
  · obtain ⟨j, t, x, e1, e2⟩ := q
    rcases at2 j _ e1 with ⟨hj, e'⟩ | ⟨hj, e'⟩
    · exact ge.own a ⟨j, t, x, e', e2⟩
    · rcases g2.own a ⟨j, t, x, e', by rw [same j hj]; exact e2⟩ with q | q
      · exact ge.own a (ownUp a q)
      · exact .inr (ge.stp.there a q)
/-- a list of nobody's is written -/
theorem Go.write {D : Addr} {vs ws : List V} (g : Go C L z0 H0 p0 σ z H p σ) (hz : z D) (hn : H0 D = none) (no : ¬ Own p σ D) (e : H D = some (.lst vs)) : Go C L z0 H0 p0 σ z (upd H D (.lst ws)) p σ := by
  have ne : ∀ a o, H a = some o → a ≠ D → upd H D (.lst ws) a = some o := fun a o h n => by rw [upd_ne n]; exact h
  have m : MOk (fun a => a = D) z H := ⟨fun a q => by subst q; exact hz, fun a q => by subst q; exact ⟨_, e, trivial⟩⟩
  have st : Stp (fun a => a = D) z H z (upd H D (.lst ws)) := ⟨fun a o h n => ne a o h n, fun a h => by
      by_cases q : a = D
      · subst q; rw [upd_same] at h; cases h
      · rw [upd_ne q] at h; exact h, fun a h _ => h, fun a h => .inl h⟩
  refine ⟨⟨g.rel.len, fun a h q => g.rel.zt a h (st.there a q), fun a h => g.rel.h0 a (st.there a h), fun i x h => ?_, fun i t x h => ?_, g.rel.dj, g.rel.mp⟩, ⟨fun a o h n => ?_, fun a h => g.stp.there a (st.there a h), g.stp.priv, g.stp.new⟩, g.own⟩
  · obtain ⟨v, h1, h2⟩ := g.rel.pv i x h
    exact ⟨v, h1, h2.step st m⟩
  · obtain ⟨a, o, h1, h2, h3, h4, h5, h6⟩ := g.rel.ow i t x h
    have na : a ≠ D := fun q => no ⟨i, t, x, h, by rw [← q]; exact h1⟩
    exact ⟨a, o, h1, h2, ne a o h3 na, h4, h5.step st m fun b eb => by cases eb; exact na, h6⟩
  · exact ne a o (g.stp.keep a o h n) fun q => by subst q; rw [hn] at h; cases h
theorem upd_stp {D : Addr} {vs ws : List V} (hz : z D) (e : H D = some (.lst vs)) : Stp (fun a => a = D) z H z (upd H D (.lst ws)) ∧ MOk (fun a => a = D) z H :=
  ⟨⟨fun a o h n => by rw [upd_ne n]; exact h, fun a h => by
      by_cases q : a = D
      · subst q; rw [upd_same] at h; cases h
      · rw [upd_ne q] at h; exact h, fun a h _ => h, fun a h => .inl h⟩, ⟨fun a q => by subst q; exact hz, fun a q => by subst q; exact ⟨_, e, trivial⟩⟩⟩
end
end Mp

/-! MpN: a list comprehension by the interpreter. -/
namespace Mp
open PySem PySem.Spec PyProof.Rows L2

abbrev W0 : WX := fun _ _ _ _ => False
section
variable {C : Ctx} {L : Act} {W : WX} {X : Cx} {N : List Str} {sc : Scope} {k : Nat}
theorem ext_stp {z : As} {H H' : Hp} (e : ∀ a o, H a = some o → H' a = some o) : Stp (fun _ => False) z H z H' ∧ MOk (fun _ => False) z H :=
  ⟨⟨fun a o h _ => e a o h, fun a h => (by
      cases q : H a with
      | none => rfl
      | some o => (rw [e a o q] at h; cases h)), fun _ h _ => h, fun _ h => .inl h⟩, ⟨fun _ q => q.elim, fun _ q => q.elim⟩⟩
theorem new_stp {z : As} {H : Hp} {D : Addr} {o : HO} (n : H D = none) : Stp (fun _ => False) z H (fun b => z b ∨ b = D) (upd H D o) ∧ MOk (fun _ => False) z H :=
  ⟨⟨fun a o h _ => upd_keep n a o h, fun a h => by
      by_cases q : a = D
      · subst q; exact n
      · rw [upd_ne q] at h; exact h, fun _ h _ => .inl h, fun a h => h.imp id fun q => by subst q; exact n⟩, ⟨fun _ q => q.elim, fun _ q => q.elim⟩⟩
theorem val_less {z' : As} {H H' : Hp} {p' : Sg} {σ : L2.St} {r : RV} {v : V} {x : PV} (h : RRep C z' H H' p' σ r v) (e : valOf r = some x) : ∃ F : Addr → Prop, (∀ a, F a → H a = none ∧ ¬ Own p' σ a) ∧ Rep C (fun a => z' a ∧ ¬ F a) H' x v := by
  cases h with
  | val h => cases e; exact ⟨fun _ => False, fun a q => q.elim, h.less fun a q => q.1⟩
  | @frs y a o q1 q2 q3 q4 q5 q6 =>
    cases e
    refine ⟨fun b => b = a, fun b q => by subst q; exact ⟨q1, q3⟩, ?_⟩
    cases q6 with
    | of h => exact h.less fun a q => q.1
    | lst e r => exact .lst e (fun q => q.2 rfl) (r.less fun a q => q.1)
  | bor _ => cases e
theorem lc_read {kd : IK} {fsrc : Sg → Rs (List RV)} {tg : Tg} {own : List Nat} {tst : Sg → Rs Bool} {elt : Sg → Rs RV} (ht : ∀ i ∈ tg.slots, i ∈ own) (hm : ∀ i ∈ own, i ∉ L.mp.map (·.1)) :
    ∀ σ H Q, tOf C L W (fun s => (fsrc s).bind fun rs s1 => match valsOf rs with
      | some l => match itV kd l with
        | some xs => (lcGo own tg tst elt xs 0 [] s1).bind fun ys s2 => .ok (.frs (.lst ys)) s2
        | none => .no
      | none => .no) σ H Q → tLc (iOf C L W kd fsrc) (gOf C L tg) (tOfB C L W0 tst) (tOf C L W0 elt) own σ H Q := by
  rintro σ H Q ⟨z0, p0, s, q⟩
  refine ⟨z0, p0, s, ?_⟩
  dsimp only at q
  cases e1 : fsrc p0 with
  | no => rw [e1] at q; exact q
  | er x p1 => rw [e1] at q; exact q
  | ok rs p1 =>
    rw [e1] at q
    dsimp only [Rs.bind] at q
    unfold OutI
    dsimp only
    cases e2 : valsOf rs with
    | none => rw [e2] at q; exact q
    | some l =>
      rw [e2] at q
      dsimp only at q ⊢
      cases e3 : itV kd l with
      | none => rw [e3] at q; exact q
      | some xs =>
        rw [e3] at q
        dsimp only at q ⊢
        intro J H1 z1 G wk hG g1 D hD
        let fin : List PV → Sg → Rs RV := fun ys s2 => .ok (.frs (.lst ys)) s2
        let Wv : Nat → Nat → Hp → Prop := fun i m Hc => ∃ z p acc vs, Go C L z0 H p0 σ z Hc p σ ∧ z D ∧ ¬ Own p σ D ∧ Hc D = some (.lst vs) ∧ RepL C z Hc acc.reverse vs ∧ G z Hc ∧ m = xs.length - i ∧ i ≤ xs.length ∧
          OutE C L W (RRep C) σ z0 H p0 Q ((lcGo own tg tst elt (xs.drop i) acc.length acc p).bind fin)
        have hHD : H D = none := g1.stp.there D hD
        have start : Wv 0 (xs.length - 0) (upd H1 D (.lst [])) := by
          refine ⟨_, p1, [], [], g1.more s hD, .inr rfl, fun ⟨i, t, x, a1, a2⟩ => ?_, upd_same, .nil, wk.stay _ _ _ _ _ hG (new_stp (o := .lst []) hD).1 (new_stp (o := .lst []) hD).2, rfl, Nat.zero_le _, q⟩
          obtain ⟨b, o, h1, _, h3, _⟩ := g1.rel.ow i t x a1
          rw [a2] at h1; cases h1; rw [hD] at h3; cases h3
        refine ⟨Wv, ⟨_, start⟩, ?_⟩
        rintro i m Hc ⟨z, p, acc, vs, g, hz, no, hDv, rl, hg, rfl, hi, out⟩
        by_cases hlt : i < xs.length
        · have ei : xs[i]? = some xs[i] := List.getElem?_eq_getElem hlt
          rw [List.drop_eq_getElem_cons hlt] at out
          unfold lcGo at out
          refine .inr ⟨wk.go i _ z Hc ei hg, fun H' => ∃ m', m' < xs.length - i ∧ Wv (i + 1) m' H', fun H' h => h, fun x Hy y => ?_⟩
          obtain ⟨kext, rx⟩ := wk.yld i _ z Hc x Hy ei hg y
          have sw := (g.rel.ext kext).wipe (own := own) hm
          refine ⟨z, wipeP p own, xs[i], sw, rx, ?_⟩
          cases e4 : tg.store xs[i] (wipeP p own) with
          | none => rw [e4] at out; exact out
          | some p' =>
            rw [e4] at out
            dsimp only at out ⊢
            intro σ' s' o' k'
            have same : ∀ j, j ∉ own → σ'[j]? = σ[j]? := fun j hj => by
              rw [k' j fun h => hj (ht j h), wipe_out hj]
            have hl : σ'.length = σ.length := by
              rw [← s'.len]
              have := sw.len
              rw [wipe_length] at this
              have l2 : p'.length = (wipeP p own).length := by
                have a := s'.len
                clear out
                exact store_len tg _ _ _ e4
              omega
            have nD : ¬ Own p' σ' D := fun h => by
              obtain ⟨i', t, x', _, a1, a2⟩ := own_wipe (o' D h)
              exact no ⟨i', t, x', a1, a2⟩
            have m1 := s'.mok
            have hyD : Hy D = some (.lst vs) := kext _ _ hDv
            have est := ext_stp (z := z) kext
            have rl1 := rl.step est.1 est.2
            have hg1 := wk.stay _ _ _ _ _ hg est.1 est.2
            refine ⟨wipe_ext hl fun j hj => by rw [same j hj, wipe_out hj], z, p', s', ?_⟩
            cases e5 : tst p' with
            | no => rw [e5] at out; exact out
            | er x2 s2 => rw [e5] at out; exact out.elim
            | ok b s2 =>
              rw [e5] at out
              rintro b' H3 z3 g3 rfl
              cases b with
              | false =>
                dsimp only at out
                refine iteF ⟨xs.length - (i + 1), by omega, z3, backP p s2 own, acc, vs, turn_back s g kext o' same hl g3, g3.stp.priv D hz nD, ?_, g3.stp.keep D _ hyD nD, rl1.step g3.stp m1, wk.stay _ _ _ _ _ hg1 g3.stp m1, rfl, hlt, out⟩
                rintro ⟨j, t, x', a1, a2⟩
                have tb := turn_back s g kext o' same hl g3
                by_cases hj : j ∈ own
                · rw [backP_in (by have := (List.getElem?_eq_some_iff.mp a1).1; rw [backP_len] at this; exact this) (by have a := g3.rel.len; have b := g.rel.len; omega) hj] at a1
                  exact no ⟨j, t, x', a1, a2⟩
                · rw [backP_out hj] at a1
                  rcases g3.own D ⟨j, t, x', a1, by rw [same j hj]; exact a2⟩ with h | h
                  · exact nD h
                  · rw [hyD] at h; cases h
              | true =>
                dsimp only at out
                refine iteT ⟨z3, s2, g3.rel, ?_⟩
                cases e6 : elt s2 with
                | no => rw [e6] at out; exact out
                | er x2 s3 => rw [e6] at out; exact out.elim
                | ok r s3 =>
                  rw [e6] at out
                  dsimp only at out
                  intro y H4 z4 g4 rr
                  cases e7 : valOf r with
                  | none => rw [e7] at out; exact out.elim
                  | some v =>
                    rw [e7] at out
                    dsimp only at out
                    split at out
                    · rename_i hline
                      have g34 := g3.trans s' g4
                      obtain ⟨F, hF, rv⟩ := val_less (rr.up fun a h => g3.stp.there a h) e7
                      have g5 := g34.less s' F hF
                      have tb := turn_back s g kext o' same hl g5
                      have hzD : z4 D ∧ ¬ F D := ⟨g34.stp.priv D hz nD, fun h => by have := (hF D h).1; rw [hyD] at this; cases this⟩
                      have h4D : H4 D = some (.lst vs) := g34.stp.keep D _ hyD nD
                      have rl5 := rl1.step g5.stp m1
                      have nb : ¬ Own (backP p s3 own) σ D := by
                        rintro ⟨j, t, x', a1, a2⟩
                        by_cases hj : j ∈ own
                        · rw [backP_in (by have := (List.getElem?_eq_some_iff.mp a1).1; rw [backP_len] at this; exact this) (by have a := g4.rel.len; have b := g.rel.len; omega) hj] at a1
                          exact no ⟨j, t, x', a1, a2⟩
                        · rw [backP_out hj] at a1
                          rcases g34.own D ⟨j, t, x', a1, by rw [same j hj]; exact a2⟩ with h | h
                          · exact nD h
                          · rw [hyD] at h; cases h
                      have lv : acc.length = vs.length := by have := rl.length; simpa using this
                      have ws := upd_stp (z := fun a => z4 a ∧ ¬ F a) (ws := vs ++ [y]) hzD h4D
                      refine ⟨vs, h4D, by rw [← line_eq, ← lv]; exact hline, xs.length - (i + 1), by omega, _, backP p s3 own, v :: acc, vs ++ [y], tb.write hzD hHD nb h4D, hzD, nb, upd_same, ?_, wk.stay _ _ _ _ _ (wk.stay _ _ _ _ _ hg1 g5.stp m1) ws.1 ws.2, rfl, hlt, out⟩
                      rw [List.reverse_cons]
                      exact (rl5.step ws.1 ws.2).append (.cons (rv.step ws.1 ws.2) .nil)
                    · exact out.elim
        · have ei : i = xs.length := by omega
          subst ei
          refine .inl ⟨wk.stop _ z Hc (Nat.le_refl _) hg, ?_⟩
          rw [List.drop_length] at out
          unfold lcGo at out
          exact out (.ref D) Hc z g (.frs hHD hz no hDv trivial (.lst hDv rl))
end
end Mp

/-! MpS: statements by the interpreter, one rule a form. -/
namespace Mp
open PySem PySem.Spec PyProof.Rows L2

section
variable (C : Ctx) (L : Act) (W : WX)
def OutS (σ : L2.St) (z : As) (H : Hp) (p : Sg) (D : Ends) : Ss → Prop
  | .nx p' => ∀ σ' H' z', Go C L z H p σ z' H' p' σ' → D.nx σ' H'
  | .rt r p' => ∀ v σ' H' z', Go C L z H p σ z' H' p' σ' → RRep C z' L.H0 H' p' σ' r v → D.rt v H'
  | .bk p' => ∀ σ' H' z', Go C L z H p σ z' H' p' σ' → D.bk σ' H'
  | .ct p' => ∀ σ' H' z', Go C L z H p σ z' H' p' σ' → D.ct σ' H'
  | .er x p' => ∀ cls d σ' H' z', Go C L z H p σ z' H' p' σ' → XRep C z' H' x cls d → W cls d σ' H'
  | .no => False
def tOfS (f : Sg → Ss) : TS := fun D σ H => ∃ z p, SRel C L z H p σ ∧ OutS C L W σ z H p D (f p)
end
section
variable {C : Ctx} {L : Act} {W : WX} {X : Cx} {z z' : As} {H H' : Hp} {p p' : Sg} {σ σ' : L2.St} {D : Ends}
theorem OutS.later {r : Ss} (s : SRel C L z H p σ) (g : Go C L z H p σ z' H' p' σ') (h : OutS C L W σ z H p D r) : OutS C L W σ' z' H' p' D r := by
  cases r with
  | nx q => exact fun a b c d => h a b c (g.trans s d)
  | rt r q => exact fun v a b c d e => h v a b c (g.trans s d) e
  | bk q => exact fun a b c d => h a b c (g.trans s d)
  | ct q => exact fun a b c d => h a b c (g.trans s d)
  | er x q => exact fun c d a b e f => h c d a b e (g.trans s f)
  | no => exact h
theorem tOfS.later {f : Sg → Ss} (s : SRel C L z H p σ) (g : Go C L z H p σ z' H' p' σ') (h : OutS C L W σ z H p D (f p')) : tOfS C L W f D σ' H' := ⟨z', p', g.rel, h.later s g⟩
/-- what follows -/
theorem OutS.seq {r : Ss} {nx : L2.St → Hp → Prop} {f : Sg → Ss} (s : SRel C L z H p σ) (h : OutS C L W σ z H p D (match r with
    | .nx s1 => f s1
    | r => r)) (k : ∀ p1 σ1 H1 z1, r = .nx p1 → Go C L z H p σ z1 H1 p1 σ1 → OutS C L W σ z H p D (f p1) → nx σ1 H1) : OutS C L W σ z H p { D with nx := nx } r := by
  cases r with
  | nx q => exact fun σ1 H1 z1 g => k q σ1 H1 z1 rfl g h
  | rt r q => exact h
  | bk q => exact h
  | ct q => exact h
  | er x q => exact h
  | no => exact h
/-- an expression ahead -/
theorem read {fe : Sg → Rs RV} {f : RV → Sg → Ss} {R : V → L2.St → Hp → Ends → Prop} (hf : ∀ z H p σ D z1 H1 p1 r v, SRel C L z H p σ → Go C L z H p σ z1 H1 p1 σ → RRep C z1 H H1 p1 σ r v → OutS C L W σ z H p D (f r p1) → R v σ H1 D) :
    ∀ D σ H, tOfS C L W (fun s => toSs (fe s) f) D σ H → tOf C L W fe σ H fun v H1 => R v σ H1 D := by
  rintro D σ H ⟨z, p, s, q⟩
  refine ⟨z, p, s, ?_⟩
  dsimp only at q
  cases e : fe p with
  | no => rw [e] at q; exact q
  | er x p1 => rw [e] at q; exact fun cls d H1 z1 g xr => q cls d σ H1 z1 g xr
  | ok r p1 => rw [e] at q; exact fun v H1 z1 g rr => hf z H p σ D z1 H1 p1 r v s g rr q
/-- an unshared list becomes a slot's own -/
theorem SRel.setOwn {i : Nat} {x : PV} {a : Addr} {o : HO} (s : SRel C L z H p σ) (hi : i < p.length) (hz : z a) (no : ¬ Own p σ a) (ho : H a = some o) (mo : MutO o) (t : Top C z H x (.ref a)) (h0 : L.H0 a = none) (hm : i ∉ L.mp.map (·.1)) :
    SRel C L z H (p.set i (.own true x)) (σ.set i (some (.ref a))) := by
  have hi' : i < σ.length := by rw [← s.len]; exact hi
  have at1 : ∀ {j : Nat} {sl : Slot}, (p.set i (.own true x))[j]? = some sl → (j = i ∧ sl = .own true x) ∨ (j ≠ i ∧ p[j]? = some sl) := fun {j sl} q => by
    by_cases hj : i = j
    · subst hj; rw [List.getElem?_set_self hi] at q; cases q; exact .inl ⟨rfl, rfl⟩
    · rw [List.getElem?_set_ne hj] at q; exact .inr ⟨Ne.symm hj, q⟩
  refine ⟨by simpa using s.len, s.zt, s.h0, fun j y e => ?_, fun j t' y e => ?_, fun j k t' u y y2 b e1 e2 e3 e4 => ?_, fun q hq => ?_⟩
  · rcases at1 e with ⟨_, q⟩ | ⟨hj, q⟩
    · cases q
    · rw [List.getElem?_set_ne (Ne.symm hj)]; exact s.pv j y q
  · rcases at1 e with ⟨rfl, q⟩ | ⟨hj, q⟩
    · cases q; exact ⟨a, o, List.getElem?_set_self hi', hz, ho, mo, t, fun _ => h0⟩
    · rw [List.getElem?_set_ne (Ne.symm hj)]; exact s.ow j t' y q
  · rcases at1 e1 with ⟨rfl, q⟩ | ⟨hj, q⟩
    · rcases at1 e2 with ⟨rfl, q2⟩ | ⟨hk, q2⟩
      · rfl
      · rw [List.getElem?_set_self hi'] at e3; cases e3
        rw [List.getElem?_set_ne (Ne.symm hk)] at e4
        exact absurd ⟨k, u, y2, q2, e4⟩ no
    · rcases at1 e2 with ⟨rfl, q2⟩ | ⟨hk, q2⟩
      · rw [List.getElem?_set_self hi'] at e4; cases e4
        rw [List.getElem?_set_ne (Ne.symm hj)] at e3
        exact absurd ⟨j, t', y, q, e3⟩ no
      · rw [List.getElem?_set_ne (Ne.symm hj)] at e3
        rw [List.getElem?_set_ne (Ne.symm hk)] at e4
        exact s.dj j k t' u y y2 b q q2 e3 e4
  · rw [List.getElem?_set_ne fun e => hm (List.mem_map.mpr ⟨q, hq, e.symm⟩)]
    exact s.mp q hq
theorem own_setOwn {i : Nat} {x : PV} {a b : Addr} {t : Bool} (hi : i < p.length) (hl : p.length = σ.length) (h : Own (p.set i (.own t x)) (σ.set i (some (.ref a))) b) : b = a ∨ Own p σ b := by
  obtain ⟨j, t', y, e1, e2⟩ := h
  by_cases hj : i = j
  · subst hj
    rw [List.getElem?_set_self (by omega)] at e2
    cases e2; exact .inl rfl
  · rw [List.getElem?_set_ne hj] at e1 e2; exact .inr ⟨j, t', y, e1, e2⟩
/-- storing what an expression gave in slot i -/
theorem Go.asg {z0 : As} {H0 : Hp} {p0 : Sg} {σ0 : L2.St} {i : Nat} {r : RV} {v : V} {H00 : Hp} (g : Go C L z0 H0 p0 σ0 z H p σ) (rr : RRep C z H00 H p σ r v) (h00 : ∀ a, H00 a = none → H0 a = none) (s0 : SRel C L z0 H0 p0 σ0) (hm : i ∉ L.mp.map (·.1)) (e : (Tg.nm i).asg r p = some p') :
    Go C L z0 H0 p0 σ0 z H p' (σ.set i (some v)) := by
  cases r with
  | val x =>
    simp only [Tg.asg, Tg.store] at e
    split at e
    · rename_i hi
      cases e
      cases rr with
      | val h => exact ⟨g.rel.set hi h hm, g.stp, fun a o => g.own a (own_set hi o)⟩
    · cases e
  | frs x =>
    simp only [Tg.asg] at e
    split at e
    · rename_i hi
      cases e
      cases rr with
      | frs q1 q2 q3 q4 q5 q6 =>
        have n0 := h00 _ q1
        refine ⟨g.rel.setOwn hi q2 q3 q4 q5 q6 (s0.h0 _ n0) hm, g.stp, fun a o => ?_⟩
        rcases own_setOwn hi g.rel.len o with rfl | o
        · exact .inr n0
        · exact g.own a o
    · cases e
  | bor j => simp [Tg.asg] at e
theorem rd_nm {fe : Sg → Rs RV} {i : Nat} (hm : i ∉ L.mp.map (·.1)) : ∀ D σ H, tOfS C L W (fun s => toSs (fe s) fun r s1 => match (Tg.nm i).asg r s1 with
    | some s2 => .nx s2
    | none => .no) D σ H → tAsg (tOf C L W fe) (gName i) D σ H := by
  refine read (R := fun v σ H1 D => D.nx (σ.set i (some v)) H1) fun z H p σ D z1 H1 p1 r v s g rr q => ?_
  cases e : (Tg.nm i).asg r p1 with
  | none => rw [e] at q; exact q.elim
  | some p2 => rw [e] at q; exact q _ _ _ (g.asg rr (fun _ h => h) s hm e)
theorem s_nm {fe : Sg → Rs RV} {i : Nat} {x : Str} {e : Expr} {pos pos' : Pos} (h : PS X (.Assign [.Name x pos'] e pos) (tAsg (tOf C L W fe) (gName i))) (hm : i ∉ L.mp.map (·.1)) :
    PS X (.Assign [.Name x pos'] e pos) (tOfS C L W fun s => toSs (fe s) fun r s1 => match (Tg.nm i).asg r s1 with
      | some s2 => .nx s2
      | none => .no) := PS.imp h (rd_nm hm)
theorem s_tp {fe : Sg → Rs RV} {ts : List Tg} {tg e : Expr} {pos : Pos} (he : PE X e (tOf C L W fe)) (hg : PG X tg (gOf C L (.tp ts))) (hs : swapsWithSole [tg] e pos.line X.env = pure false) (hw : swappedStores [tg] e X.env = pure none)
    (h1 : (assignEach [tg] X.env).map (·.2) = [assign tg X.env]) :
    PS X (.Assign [tg] e pos) (tOfS C L W fun s => toSs (fe s) fun r s1 => match (Tg.tp ts).asg r s1 with
      | some s2 => .nx s2
      | none => .no) := by
  refine PS.imp (ps_asg he hg hs hw h1) ?_
  refine read (R := fun v σ H1 D => gOf C L (.tp ts) v σ H1 D.nx) fun z H p σ D z1 H1 p1 r v s g rr q => ?_
  cases r with
  | val x =>
    cases rr with
    | val h =>
      refine ⟨z1, p1, x, g.rel, h, ?_⟩
      replace q : OutS C L W σ z H p D (match (Tg.tp ts).store x p1 with
        | some s2 => .nx s2
        | none => .no) := q
      cases e1 : (Tg.tp ts).store x p1 with
      | none => rw [e1] at q; exact q
      | some p2 =>
        rw [e1] at q
        exact fun σ' s' o' _ => q σ' H1 z1 ⟨s', g.stp, fun a o => g.own a (o' a o)⟩
  | frs x => exact q.elim
  | bor j => exact q.elim
theorem setAll_nobor : ∀ {is : List Nat} {rs : List RV} {p q : Sg}, setAll is rs p = some q → ∀ r ∈ rs, isBor r = false
  | [], [], _, _, _, _, h => by cases h
  | [], _ :: _, _, _, e, _, _ => by simp [setAll] at e
  | _ :: _, [], _, _, e, _, _ => by simp [setAll] at e
  | i :: is, r :: rs, p, q, e, r', h => by
    unfold setAll at e
    cases e1 : (Tg.nm i).asg r p with
    | none => rw [e1] at e; cases e
    | some p1 =>
      rw [e1] at e
      rcases List.mem_cons.mp h with rfl | h
      · cases r' with
        | bor j => simp [Tg.asg] at e1
        | _ => rfl
      · exact setAll_nobor e r' h
theorem setAll_go {z0 : As} {H0 : Hp} {p0 : Sg} {σ0 : L2.St} {H00 : Hp} (h00 : ∀ a, H00 a = none → H0 a = none) (s0 : SRel C L z0 H0 p0 σ0) : ∀ {is : List Nat} {rs : List RV} {vs : List V} {p σ : _}, Go C L z0 H0 p0 σ0 z H p σ → RRepL C z H00 H p σ rs vs → (∀ i ∈ is, i ∉ L.mp.map (·.1)) →
    setAll is rs p = some p' → vs.length = is.length ∧ Go C L z0 H0 p0 σ0 z H p' ((is.zip vs).foldl (fun s q => s.set q.1 (some q.2)) σ)
  | [], [], vs, p, σ, g, rr, _, e => by cases rr; cases e; exact ⟨rfl, g⟩
  | [], _ :: _, _, _, _, _, _, _, e => by simp [setAll] at e
  | _ :: _, [], _, _, _, _, _, _, e => by simp [setAll] at e
  | i :: is, r :: rs, vs, p, σ, g, rr, hm, e => by
    unfold setAll at e
    cases e1 : (Tg.nm i).asg r p with
    | none => rw [e1] at e; cases e
    | some p1 =>
      rw [e1] at e
      cases rr with
      | @cons _ v _ vs hr hrs hd =>
        have g1 := g.asg hr h00 s0 (hm i (by simp)) e1
        -- the other values stay where they were
        have hrs' : RRepL C z H00 H p1 (σ.set i (some v)) rs vs := by
          have own1 : ∀ b, Own p1 (σ.set i (some v)) b → (∃ x, r = .frs x ∧ v = .ref b) ∨ Own p σ b := by
            intro b o
            cases r with
            | val x =>
              simp only [Tg.asg, Tg.store] at e1
              split at e1
              · rename_i hi; cases e1; exact .inr (own_set hi o)
              · cases e1
            | frs x =>
              simp only [Tg.asg] at e1
              split at e1
              · rename_i hi
                cases e1
                cases hr with
                | frs _ _ _ _ _ _ =>
                  rcases own_setOwn hi g.rel.len o with rfl | o
                  · exact .inl ⟨x, rfl, rfl⟩
                  · exact .inr o
              · cases e1
            | bor j => simp [Tg.asg] at e1
          have nb := setAll_nobor e
          clear e hm
          induction hrs with
          | nil => exact .nil
          | @cons r2 v2 rs2 vs2 a b c ih =>
            refine .cons ?_ (ih (fun x a' h1 h2 h3 => hd x a' h1 h2 (let ⟨i, y, h4, h5⟩ := h3; ⟨i + 1, y, by simpa using h4, by simpa using h5⟩)) fun r h => nb r (List.mem_cons_of_mem _ h)) c
            cases a with
            | val h => exact .val h
            | frs q1 q2 q3 q4 q5 q6 =>
              refine .frs q1 q2 (fun o => ?_) q4 q5 q6
              rcases own1 _ o with ⟨x, h1, h2⟩ | o
              · exact hd x _ h1 h2 ⟨0, _, rfl, rfl⟩
              · exact q3 o
            | @bor j _ h =>
              have := nb _ (List.mem_cons_self ..)
              cases this
        obtain ⟨l, g2⟩ := setAll_go h00 s0 g1 hrs' (fun j hj => hm j (by simp [hj])) e
        exact ⟨by simp [l], g2⟩
end
end Mp

/-! MpT: more statements. -/
namespace Mp
open PySem PySem.Spec PyProof.Rows L2

section
variable {C : Ctx} {L : Act} {W : WX} {X : Cx} {N : List Str} {sc : Scope} {k : Nat}
/-- arguments ahead -/
theorem readL {fl : Sg → Rs (List RV)} {f : List RV → Sg → Ss} {R : List V → L2.St → Hp → Ends → Prop} (hf : ∀ z H p σ D z1 H1 p1 r v, SRel C L z H p σ → Go C L z H p σ z1 H1 p1 σ → RRepL C z1 H H1 p1 σ r v → OutS C L W σ z H p D (f r p1) → R v σ H1 D) :
    ∀ D σ H, tOfS C L W (fun s => toSs (fl s) f) D σ H → tOfL C L W fl σ H fun v H1 => R v σ H1 D := by
  rintro D σ H ⟨z, p, s, q⟩
  refine ⟨z, p, s, ?_⟩
  dsimp only at q
  cases e : fl p with
  | no => rw [e] at q; exact q
  | er x p1 => rw [e] at q; exact fun cls d H1 z1 g xr => q cls d σ H1 z1 g xr
  | ok r p1 => rw [e] at q; exact fun v H1 z1 g rr => hf z H p σ D z1 H1 p1 r v s g rr q
theorem rd_par {fl : Sg → Rs (List RV)} {i j : Nat} (hm : ∀ m ∈ [i, j], m ∉ L.mp.map (·.1)) : ∀ D σ H, tOfS C L W (fun s => toSs (fl s) fun rs s1 => match setAll [i, j] rs s1 with
    | some s2 => .nx s2
    | none => .no) D σ H → tPar i j (tOfL C L W fl) D σ H := by
  refine readL (R := fun vs σ H1 D => ∃ v w, vs = [v, w] ∧ D.nx ((σ.set i (some v)).set j (some w)) H1) fun z H p σ D z1 H1 p1 rs vs s g rr q => ?_
  cases e : setAll [i, j] rs p1 with
  | none => rw [e] at q; exact q.elim
  | some p2 =>
    rw [e] at q
    obtain ⟨hl, g2⟩ := setAll_go (fun _ h => h) s g rr hm e
    match vs, hl with
    | [v, w], _ => exact ⟨v, w, rfl, q _ _ _ g2⟩
theorem rd_par3 {fl : Sg → Rs (List RV)} {i j l : Nat} (hm : ∀ m ∈ [i, j, l], m ∉ L.mp.map (·.1)) : ∀ D σ H, tOfS C L W (fun s => toSs (fl s) fun rs s1 => match setAll [i, j, l] rs s1 with
    | some s2 => .nx s2
    | none => .no) D σ H → tPar3 i j l (tOfL C L W fl) D σ H := by
  refine readL (R := fun vs σ H1 D => ∃ u v w, vs = [u, v, w] ∧ D.nx (((σ.set i (some u)).set j (some v)).set l (some w)) H1) fun z H p σ D z1 H1 p1 rs vs s g rr q => ?_
  cases e : setAll [i, j, l] rs p1 with
  | none => rw [e] at q; exact q.elim
  | some p2 =>
    rw [e] at q
    obtain ⟨hl, g2⟩ := setAll_go (fun _ h => h) s g rr hm e
    match vs, hl with
    | [u, v, w], _ => exact ⟨u, v, w, rfl, q _ _ _ g2⟩
/-- an own list written -/
theorem Go.mut {z0 : As} {H0 : Hp} {p0 : Sg} {σ0 : L2.St} {z : As} {H : Hp} {p : Sg} {σ : L2.St} {i : Nat} {t : Bool} {x : PV} {ys : List PV} {ws vs : List V} {D : Addr} (g : Go C L z0 H0 p0 σ0 z H p σ) (s0 : SRel C L z0 H0 p0 σ0) (e : p[i]? = some (.own t x)) (es : σ[i]? = some (some (.ref D)))
    (hD : H D = some (.lst vs)) (r : RepL C z H ys ws) : Go C L z0 H0 p0 σ0 z (upd H D (.lst ws)) (p.set i (.own t (.lst ys))) σ := by
  have sp := g.rel
  have hi : i < p.length := (List.getElem?_eq_some_iff.mp e).1
  obtain ⟨D', o, h1, hz, h3, h4, h5, h6⟩ := sp.ow i t x e
  rw [es] at h1; cases h1
  obtain ⟨st, m⟩ := upd_stp (ws := ws) hz hD
  have at1 : ∀ {j : Nat} {sl : Slot}, (p.set i (.own t (.lst ys)))[j]? = some sl → (j = i ∧ sl = .own t (.lst ys)) ∨ (j ≠ i ∧ p[j]? = some sl) := fun {j sl} q => by
    by_cases hj : i = j
    · subst hj; rw [List.getElem?_set_self hi] at q; cases q; exact .inl ⟨rfl, rfl⟩
    · rw [List.getElem?_set_ne hj] at q; exact .inr ⟨Ne.symm hj, q⟩
  have ownUp : ∀ a, Own (p.set i (.own t (.lst ys))) σ a → Own p σ a := by
    rintro a ⟨j, u, y, e1, e2⟩
    rcases at1 e1 with ⟨hj, _⟩ | ⟨_, q⟩
    · exact ⟨i, t, x, e, by rw [← hj]; exact e2⟩
    · exact ⟨j, u, y, q, e2⟩
  refine ⟨⟨by simpa using sp.len, fun a h q => sp.zt a h (st.there a q), fun a h => sp.h0 a (st.there a h), fun j y q => ?_, fun j u y q => ?_, fun j k u w y y2 b e1 e2 e3 e4 => ?_, sp.mp⟩, ⟨fun a o' h n => ?_, fun a h => g.stp.there a (st.there a h), g.stp.priv, g.stp.new⟩, fun a o => g.own a (ownUp a o)⟩
  · rcases at1 q with ⟨_, q⟩ | ⟨_, q⟩
    · cases q
    · obtain ⟨v, a1, a2⟩ := sp.pv j y q
      exact ⟨v, a1, a2.step st m⟩
  · rcases at1 q with ⟨hj, q'⟩ | ⟨hj, q⟩
    · cases q'
      exact ⟨D, _, by rw [hj]; exact es, hz, upd_same, trivial, .lst upd_same (r.step st m), h6⟩
    · obtain ⟨b, o', a1, a2, a3, a4, a5, a6⟩ := sp.ow j u y q
      have nb : b ≠ D := fun h => hj (sp.dj j i _ _ _ _ D q e (by rw [a1, h]) es)
      exact ⟨b, o', a1, a2, by rw [upd_ne nb]; exact a3, a4, a5.step st m fun c ec => by cases ec; exact nb, a6⟩
  · have o1 : ∀ {j : Nat} {u : Bool} {y : PV}, (p.set i (.own t (.lst ys)))[j]? = some (.own u y) → ∃ (u' : Bool) (y' : PV), p[j]? = some (.own u' y') := fun {j u y} q => by
      rcases at1 q with ⟨rfl, _⟩ | ⟨_, q⟩
      · exact ⟨_, _, e⟩
      · exact ⟨_, _, q⟩
    obtain ⟨_, _, q1⟩ := o1 e1
    obtain ⟨_, _, q2⟩ := o1 e2
    exact sp.dj j k _ _ _ _ b q1 q2 e3 e4
  · have h' := g.stp.keep a o' h n
    have ne : a ≠ D := fun q => by
      subst q
      rcases g.own a ⟨i, t, x, e, es⟩ with q | q
      · exact n q
      · rw [q] at h; cases h
    rw [upd_ne ne]
    exact h'
theorem ownL_of {p : Sg} {i : Nat} {t : Bool} {l : List PV} (e : ownL p i = some (t, l)) : p[i]? = some (.own t (.lst l)) := by
  unfold ownL at e
  split at e
  · rename_i h; cases e; exact h
  · cases e
theorem isOwnL_of {p : Sg} {i : Nat} (e : isOwnL p i = true) : ∃ t l, p[i]? = some (.own t (.lst l)) := by
  unfold isOwnL at e
  split at e
  · rename_i h; exact ⟨_, _, h⟩
  · cases e
theorem own_at {z : As} {H : Hp} {p : Sg} {σ : L2.St} {i : Nat} {t : Bool} {l : List PV} (s : SRel C L z H p σ) (e : p[i]? = some (.own t (.lst l))) : ∃ a vs, σ[i]? = some (some (.ref a)) ∧ H a = some (.lst vs) ∧ RepL C z H l vs := by
  obtain ⟨a, o, h1, h2, h3, h4, h5, h6⟩ := s.ow i _ _ e
  obtain ⟨a', vs, e1, e2, e3⟩ := h5.lsts
  cases e1
  exact ⟨a, vs, h1, e2, e3⟩
theorem rd_app {fe : Sg → Rs RV} {i : Nat} : ∀ D σ H, tOfS C L W (fun s => match isOwnL s i with
    | true => toSs (fe s) fun r s1 => match valOf r, ownL s1 i with
      | some v, some (t, l) => if l.length < line then .nx (s1.set i (.own t (.lst (l ++ [v])))) else .no
      | _, _ => .no
    | false => .no) D σ H → tDrop (tBM C.K "list" rAppend (tVar i) (tCons (tOf C L W fe) tNil)) D σ H := by
  rintro D σ H ⟨z, p, s, q⟩
  dsimp only at q
  cases e0 : isOwnL p i with
  | false => rw [e0] at q; exact q.elim
  | true =>
    rw [e0] at q
    dsimp only at q
    obtain ⟨t0, l0, e0'⟩ := isOwnL_of e0
    obtain ⟨a, vs0, h1, h2, _⟩ := own_at s e0'
    refine ⟨.ref a, h1, .inl ⟨rfl, vs0, .of h2⟩, z, p, s, ?_⟩
    cases e1 : fe p with
    | no => rw [e1] at q; exact q
    | er x p1 => rw [e1] at q; exact fun cls d H1 z1 g xr => q cls d σ H1 z1 g xr
    | ok r p1 =>
      rw [e1] at q
      dsimp only [toSs] at q
      intro y H1 z1 g rr
      cases e2 : valOf r with
      | none => rw [e2] at q; exact q.elim
      | some v =>
        cases e3 : ownL p1 i with
        | none => rw [e2, e3] at q; exact q.elim
        | some tl =>
          obtain ⟨t, l⟩ := tl
          rw [e2, e3] at q
          dsimp only at q
          split at q
          · rename_i hl
            obtain ⟨F, hF, rv⟩ := val_less rr e2
            have g2 := g.less s F hF
            have e3' := ownL_of e3
            obtain ⟨a', vs, a1, a2, a3⟩ := own_at g2.rel e3'
            rw [h1] at a1; cases a1
            exact ⟨a, vs, y, rfl, rfl, a2, by rw [← line_eq, ← a3.length]; exact hl, q _ _ _ (g2.mut s e3' h1 a2 (a3.append (.cons rv .nil)))⟩
          · exact q.elim
theorem rd_set {fe fi : Sg → Rs RV} {i : Nat} : ∀ D σ H, tOfS C L W (fun s => toSs (fe s) fun r s1 => match isOwnL s1 i with
    | true => toSs (fi s1) fun j s2 => match valOf r, j.int?, ownL s2 i with
      | some v, some k, some (t, l) => match ixP l.length k with
        | some m => .nx (s2.set i (.own t (.lst (l.set m v))))
        | none => .no
      | _, _, _ => .no
    | false => .no) D σ H → tAsg (tOf C L W fe) (gSub (tVar i) (tOf C L W fi) rSetL) D σ H := by
  refine read (R := fun v σ H1 D => gSub (tVar i) (tOf C L W fi) rSetL v σ H1 D.nx) fun z H p σ D z1 H1 p1 r v s g rr q => ?_
  cases e0 : isOwnL p1 i with
  | false => rw [e0] at q; exact q.elim
  | true =>
    rw [e0] at q
    dsimp only at q
    obtain ⟨t0, l0, e0'⟩ := isOwnL_of e0
    obtain ⟨a, vs0, h1, h2, _⟩ := own_at g.rel e0'
    refine ⟨.ref a, h1, z1, p1, g.rel, ?_⟩
    cases e1 : fi p1 with
    | no => rw [e1] at q; exact q
    | er x p2 => rw [e1] at q; exact fun cls d H2 z2 g2 xr => q cls d σ H2 z2 (g.trans s g2) xr
    | ok j p2 =>
      rw [e1] at q
      dsimp only [toSs] at q
      intro y H2 z2 g2 ry
      cases e2 : valOf r with
      | none => rw [e2] at q; exact q.elim
      | some x =>
        cases e3 : j.int? with
        | none => rw [e2, e3] at q; exact q.elim
        | some m =>
          cases e4 : ownL p2 i with
          | none => rw [e2, e3, e4] at q; exact q.elim
          | some tl =>
            obtain ⟨t, l⟩ := tl
            rw [e2, e3, e4] at q
            dsimp only at q
            cases e5 : ixP l.length m with
            | none => rw [e5] at q; exact q.elim
            | some n =>
              rw [e5] at q
              obtain rfl := int_of e3
              obtain ⟨F, hF, rv⟩ := val_less (rr.go g.rel g2) e2
              have g3 := (g.trans s g2).less s F hF
              have e4' := ownL_of e4
              obtain ⟨a', vs, a1, a2, a3⟩ := own_at g3.rel e4'
              rw [h1] at a1; cases a1
              cases ry with
              | val h => cases h; exact ⟨a, vs, m, n, rfl, rfl, a2, by rw [← a3.length, ← ixP_eq]; exact e5, q _ _ _ (g3.mut s e4' h1 a2 (a3.set n rv))⟩
theorem rd_aug {fe : Sg → Rs RV} {i : Nat} {op : Operator} {f : Int → Int → Int} (hm : i ∉ L.mp.map (·.1)) (hf : (op = .Add ∧ f = fun a b => a + b) ∨ (op = .Sub ∧ f = fun a b => a - b)) : ∀ D σ H, tOfS C L W (fun s => match s[i]? with
    | some (.pv (.int m)) => toSs (fe s) fun r s1 => match r.int? with
      | some k => match op with
        | .Add => .nx (s1.set i (.pv (.int (m + k))))
        | .Sub => .nx (s1.set i (.pv (.int (m - k))))
        | _ => .no
      | none => .no
    | _ => .no) D σ H → tAug i (tOf C L W fe) (ipI f) D σ H := by
  rintro D σ H ⟨z, p, s, q⟩
  dsimp only at q
  split at q
  · rename_i m e0
    obtain ⟨v, h1, h2⟩ := s.pv i _ e0
    cases h2
    refine ⟨.int m, h1, z, p, s, ?_⟩
    cases e1 : fe p with
    | no => rw [e1] at q; exact q
    | er x p1 => rw [e1] at q; exact fun cls d H1 z1 g xr => q cls d σ H1 z1 g xr
    | ok r p1 =>
      rw [e1] at q
      dsimp only [toSs] at q
      intro y H1 z1 g rr
      cases e2 : r.int? with
      | none => rw [e2] at q; exact q.elim
      | some k =>
        rw [e2] at q
        obtain rfl := int_of e2
        have hi : i < p1.length := by
          have a := g.rel.len
          have b := (List.getElem?_eq_some_iff.mp h1).1
          omega
        have gs : ∀ n : Int, Go C L z H p σ z1 H1 (p1.set i (.pv (.int n))) (σ.set i (some (.int n))) := fun n => ⟨g.rel.set hi (.int n) hm, g.stp, fun a o => g.own a (own_set hi o)⟩
        cases rr with
        | val h =>
          cases h
          refine ⟨m, k, rfl, rfl, ?_⟩
          rcases hf with ⟨rfl, rfl⟩ | ⟨rfl, rfl⟩
          · exact q _ _ _ (gs _)
          · exact q _ _ _ (gs _)
  · exact q.elim
theorem rd_exp {fe : Sg → Rs RV} : ∀ D σ H, tOfS C L W (fun s => toSs (fe s) fun _ s1 => .nx s1) D σ H → tDrop (tOf C L W fe) D σ H :=
  read (R := fun _ σ H1 D => D.nx σ H1) fun _ _ _ _ _ _ _ _ _ _ _ g _ q => q _ _ _ g
theorem rd_ret {fe : Sg → Rs RV} : ∀ D σ H, tOfS C L W (fun s => toSs (fe s) fun r s1 => match retV s1 r with
    | some (r, s2) => .rt r s2
    | none => .no) D σ H → tRet (tOf C L W fe) D σ H := by
  refine read (R := fun v _ H1 D => D.rt v H1) fun z H p σ D z1 H1 p1 r v s g rr q => ?_
  cases e : retV p1 r with
  | none => rw [e] at q; exact q.elim
  | some rs' =>
    rw [e] at q
    cases r with
    | val x => cases e; cases rr with | val h => exact q v σ H1 z1 g (.val h)
    | frs x => cases e; cases rr with | frs q1 q2 q3 q4 q5 q6 => exact q _ σ H1 z1 g (.frs (s.h0 _ q1) q2 q3 q4 q5 q6)
    | bor i =>
      unfold retV at e
      dsimp only at e
      split at e
      · rename_i x e1
        cases e
        cases rr with
        | bor h =>
          obtain ⟨a, o, h1, h2, h3, h4, h5, h6⟩ := g.rel.ow i true x e1
          rw [h] at h1; cases h1
          have hi : i < p1.length := (List.getElem?_eq_some_iff.mp e1).1
          have at1 : ∀ {j : Nat} {sl : Slot}, (p1.set i .un)[j]? = some sl → sl ≠ .un → j ≠ i ∧ p1[j]? = some sl := fun {j sl} w nw => by
            by_cases hj : i = j
            · subst hj; rw [List.getElem?_set_self hi] at w; cases w; exact absurd rfl nw
            · rw [List.getElem?_set_ne hj] at w; exact ⟨Ne.symm hj, w⟩
          have sr := g.rel
          refine q _ σ H1 z1 ⟨⟨by simpa using sr.len, sr.zt, sr.h0, fun j y w => sr.pv j y (at1 w (by simp)).2, fun j t y w => sr.ow j t y (at1 w (by simp)).2, fun j l t u y y2 b e1 e2 => sr.dj j l t u y y2 b (at1 e1 (by simp)).2 (at1 e2 (by simp)).2, sr.mp⟩, g.stp, fun b ⟨j, t, y, w1, w2⟩ => g.own b ⟨j, t, y, (at1 w1 (by simp)).2, w2⟩⟩ (.frs (h6 rfl) h2 ?_ h3 h4 h5)
          rintro ⟨j, t, y, w1, w2⟩
          obtain ⟨nj, w1'⟩ := at1 w1 (by simp)
          exact nj (sr.dj j i _ _ _ _ a w1' e1 w2 h)
      · cases e
end
end Mp

/-! MpU: blocks, branches, loops. -/
namespace Mp
open PySem PySem.Spec PyProof.Rows L2

section
variable {C : Ctx} {L : Act} {W : WX} {X : Cx} {N : List Str} {sc : Scope} {k : Nat} {pos : Pos}
theorem ss_nil : PSs X [] (tOfS C L W fun s => .nx s) := PSs.imp pss_nil fun D σ H ⟨z, p, s, q⟩ => q σ H z (.refl s)
theorem ss_cons {st : Stmt} {rest : List Stmt} {f g : Sg → Ss} (h1 : PS X st (tOfS C L W f)) (h2 : PSs X rest (tOfS C L W g)) : PSs X (st :: rest) (tOfS C L W fun s => match f s with
    | .nx s1 => g s1
    | r => r) := by
  refine PSs.imp (pss_cons h1 h2) ?_
  rintro D σ H ⟨z, p, s, q⟩
  exact ⟨z, p, s, OutS.seq s q fun p1 σ1 H1 z1 _ gg q' => tOfS.later s gg q'⟩
theorem rd_ite {ft : Sg → Rs Bool} {fa fb : Sg → Ss} : ∀ D σ H, tOfS C L W (fun s => toSs (ft s) fun c s1 => if c then fa s1 else fb s1) D σ H → tIfS (tOfB C L W ft) (tOfS C L W fa) (tOfS C L W fb) D σ H := by
  rintro D σ H ⟨z, p, s, q⟩
  refine ⟨z, p, s, ?_⟩
  dsimp only at q
  cases e : ft p with
  | no => rw [e] at q; exact q
  | er x p1 => rw [e] at q; exact fun cls d H1 z1 g xr => q cls d σ H1 z1 g xr
  | ok b p1 =>
    rw [e] at q
    dsimp only [toSs] at q
    rintro v H1 z1 g rfl
    cases b with
    | true => exact iteT (tOfS.later s g q)
    | false => exact iteF (tOfS.later s g q)
theorem rd_whl {ft : Sg → Rs Bool} {fb : Sg → Ss} {n : Nat} : ∀ D σ H, tOfS C L W (fun s => whGo ft fb n s) D σ H → tWhile (tOfB C L W ft) (tOfS C L W fb) D σ H := by
  rintro D σ H ⟨z0, p0, s, q⟩
  refine ⟨fun m σ1 H1 => ∃ z p, Go C L z0 H p0 σ z H1 p σ1 ∧ OutS C L W σ z0 H p0 D (whGo ft fb m p), ⟨n, z0, p0, .refl s, q⟩, ?_⟩
  rintro m σ1 H1 ⟨z, p, g, q⟩
  cases m with
  | zero => exact q.elim
  | succ m =>
    unfold whGo at q
    refine ⟨z, p, g.rel, ?_⟩
    cases e : ft p with
    | no => rw [e] at q; exact q
    | er x p1 => rw [e] at q; exact fun cls d H2 z2 g2 xr => q cls d σ1 H2 z2 (g.trans s g2) xr
    | ok b p1 =>
      rw [e] at q
      rintro v H2 z2 g2 rfl
      cases b with
      | true =>
        dsimp only at q
        refine iteT ⟨fun σ' H' => ∃ m', m' < m + 1 ∧ ∃ z p, Go C L z0 H p0 σ z H' p σ' ∧ OutS C L W σ z0 H p0 D (whGo ft fb m' p), fun _ _ h => h, z2, p1, g2.rel, ?_⟩
        have gg := g.trans s g2
        cases e2 : fb p1 with
        | nx p2 => rw [e2] at q; exact fun σ3 H3 z3 g3 => ⟨m, Nat.lt_succ_self m, z3, p2, gg.trans s g3, q⟩
        | ct p2 => rw [e2] at q; exact fun σ3 H3 z3 g3 => ⟨m, Nat.lt_succ_self m, z3, p2, gg.trans s g3, q⟩
        | bk p2 => rw [e2] at q; exact fun σ3 H3 z3 g3 => q σ3 H3 z3 (gg.trans s g3)
        | rt r p2 => rw [e2] at q; exact fun v σ3 H3 z3 g3 rr => q v σ3 H3 z3 (gg.trans s g3) rr
        | er x p2 => rw [e2] at q; exact fun cls d σ3 H3 z3 g3 xr => q cls d σ3 H3 z3 (gg.trans s g3) xr
        | no => rw [e2] at q; exact q
      | false => exact iteF (q σ1 H2 z2 (g.trans s g2))
theorem rd_fro {kd : IK} {fsrc : Sg → Rs (List RV)} {tg : Tg} {fb : Sg → Ss} : ∀ D σ H, tOfS C L W (fun s => toSs (fsrc s) fun rs s1 => match valsOf rs with
    | some l => match itV kd l with
      | some xs => frGo tg fb xs s1
      | none => .no
    | none => .no) D σ H → tFor (iOf C L W kd fsrc) (gOf C L tg) (tOfS C L W fb) D σ H := by
  rintro D σ H ⟨z0, p0, s, q⟩
  refine ⟨z0, p0, s, ?_⟩
  dsimp only at q
  cases e1 : fsrc p0 with
  | no => rw [e1] at q; exact q
  | er x p1 => rw [e1] at q; exact fun cls d H1 z1 g1 xr => q cls d σ H1 z1 g1 xr
  | ok rs p1 =>
    rw [e1] at q
    dsimp only [toSs] at q
    unfold OutI
    dsimp only
    cases e2 : valsOf rs with
    | none => rw [e2] at q; exact q
    | some l =>
      rw [e2] at q
      dsimp only at q ⊢
      cases e3 : itV kd l with
      | none => rw [e3] at q; exact q
      | some xs =>
        rw [e3] at q
        dsimp only at q ⊢
        intro J H1 z1 G wk hG g1
        refine ⟨fun i m σ' H' => ∃ z p, Go C L z0 H p0 σ z H' p σ' ∧ G z H' ∧ m = xs.length - i ∧ i ≤ xs.length ∧ OutS C L W σ z0 H p0 D (frGo tg fb (xs.drop i) p), ⟨_, z1, p1, g1, hG, rfl, Nat.zero_le _, q⟩, ?_⟩
        rintro i m σ2 H2 ⟨z, p, g, hg, rfl, hi, q⟩
        by_cases hlt : i < xs.length
        · have ei : xs[i]? = some xs[i] := List.getElem?_eq_getElem hlt
          rw [List.drop_eq_getElem_cons hlt] at q
          unfold frGo at q
          refine .inr ⟨wk.go i _ z H2 ei hg, fun σ' H' => ∃ m', m' < xs.length - i ∧ ∃ z p, Go C L z0 H p0 σ z H' p σ' ∧ G z H' ∧ m' = xs.length - (i + 1) ∧ i + 1 ≤ xs.length ∧ OutS C L W σ z0 H p0 D (frGo tg fb (xs.drop (i + 1)) p), fun _ _ h => h, fun x Hy y => ?_⟩
          obtain ⟨kext, rx⟩ := wk.yld i _ z H2 x Hy ei hg y
          have gy := g.ext kext
          have est := ext_stp (z := z) kext
          have hgy := wk.stay _ _ _ _ _ hg est.1 est.2
          refine ⟨z, p, xs[i], gy.rel, rx, ?_⟩
          cases e4 : tg.store xs[i] p with
          | none => rw [e4] at q; exact q
          | some p2 =>
            rw [e4] at q
            dsimp only at q ⊢
            intro σ3 s3 o3 k3
            have g3 : Go C L z0 H p0 σ z Hy p2 σ3 := ⟨s3, gy.stp, fun a o => gy.own a (o3 a o)⟩
            refine ⟨z, p2, s3, ?_⟩
            have nxt : ∀ p4 σ4 H4 z4, Go C L z Hy p2 σ3 z4 H4 p4 σ4 → OutS C L W σ z0 H p0 D (frGo tg fb (xs.drop (i + 1)) p4) → ∃ m', m' < xs.length - i ∧ ∃ z p, Go C L z0 H p0 σ z H4 p σ4 ∧ G z H4 ∧ m' = xs.length - (i + 1) ∧ i + 1 ≤ xs.length ∧ OutS C L W σ z0 H p0 D (frGo tg fb (xs.drop (i + 1)) p) :=
              fun p4 σ4 H4 z4 g4 q4 => ⟨_, by omega, z4, p4, g3.trans s g4, wk.stay _ _ _ _ _ hgy g4.stp s3.mok, rfl, hlt, q4⟩
            cases e5 : fb p2 with
            | nx p4 => rw [e5] at q; exact fun σ4 H4 z4 g4 => nxt p4 σ4 H4 z4 g4 q
            | ct p4 => rw [e5] at q; exact fun σ4 H4 z4 g4 => nxt p4 σ4 H4 z4 g4 q
            | bk p4 => rw [e5] at q; exact fun σ4 H4 z4 g4 => q σ4 H4 z4 (g3.trans s g4)
            | rt r p4 => rw [e5] at q; exact fun v σ4 H4 z4 g4 rr => q v σ4 H4 z4 (g3.trans s g4) rr
            | er x p4 => rw [e5] at q; exact fun cls d σ4 H4 z4 g4 xr => q cls d σ4 H4 z4 (g3.trans s g4) xr
            | no => rw [e5] at q; exact q
        · have ei : i = xs.length := by omega
          subst ei
          refine .inl ⟨wk.stop _ z H2 (Nat.le_refl _) hg, ?_⟩
          rw [List.drop_length] at q
          unfold frGo at q
          exact q _ _ _ g
end
end Mp

/-! MpK: comparisons in a row, tests, what is walked by its text. -/
namespace Mp
open PySem PySem.Spec PyProof.Rows L2 RZ

section
variable {C : Ctx} {L : Act} {W : WX} {X : Cx} {fa fb fc : Sg → Rs RV} {a b c : Expr} {pos : Pos} {z : As} {H : Hp} {p : Sg} {σ : L2.St}
/-- the interpreter's comparison -/
def cmpE (op : CmpOp) (fa fb : Sg → Rs RV) : Sg → Rs RV := fun s => (fa s).bind fun x s1 => (fb s1).bind fun y s2 => match deref s2 x, deref s2 y with
  | some u, some v => match cmpV op u v with
    | some c => .ok (.val (.bl c)) s2
    | none => .no
  | _, _ => .no
theorem cmpE_bl {op : CmpOp} {s s' : Sg} {v : RV} (h : cmpE op fa fb s = .ok v s') : ∃ t, v = .val (.bl t) := by
  unfold cmpE at h
  cases e1 : fa s with
  | ok x s1 =>
    rw [e1] at h
    dsimp only [Rs.bind] at h
    cases e2 : fb s1 with
    | ok y s2 =>
      rw [e2] at h
      dsimp only at h
      split at h
      · split at h
        · cases h; exact ⟨_, rfl⟩
        · cases h
      · cases h
    | er => rw [e2] at h; cases h
    | no => rw [e2] at h; cases h
  | er => rw [e1] at h; cases h
  | no => rw [e1] at h; cases h
theorem cmp_read {op : CmpOp} : ∀ σ H Q, tOf C L W (cmpE op fa fb) σ H Q → tOp (rCmp C op) (tOf C L W fa) (tOf C L W fb) σ H Q := by
  refine read2 fun z H p σ Q z2 H2 p2 x y v u s g rx ry k => ?_
  cases e1 : deref p2 x with
  | none => rw [e1] at k; exact k.elim
  | some m =>
    cases e2 : deref p2 y with
    | none => rw [e1, e2] at k; exact k.elim
    | some n =>
      rw [e1, e2] at k
      dsimp only at k
      cases e3 : cmpV op m n with
      | none => rw [e3] at k; exact k.elim
      | some r =>
        rw [e3] at k
        exact ⟨z2, m, n, r, deref_top g.rel rx e1, deref_top g.rel ry e2, e3, k _ _ _ g (.val (.bl _))⟩
theorem t_cmp {op : CmpOp} (hK : X.K = C.K) (hu : X.A.units + 65 < cLine) (gv : ∀ g v, C.gv g = some v → ∃ f, v = .ref f) (hm : behindInMarks op b = false) (ha : PE X a (tOf C L W fa)) (hb : PE X b (tOf C L W fb)) :
    PT X (.Compare a [op] [b] pos) (tOfB C L W fun s => asB (cmpE op fa fb s)) :=
  PT.imp (pt_cmpR (op_cmp hK hu gv) ha hb hm) fun σ H Q h => cmp_read σ H _ (b_read (fun _ _ _ => cmpE_bl) σ H Q h)
/-- two comparisons in a row -/
def chnE (o p : CmpOp) (fa fb fc : Sg → Rs RV) : Sg → Rs RV := fun s => (fa s).bind fun x s1 => (fb s1).bind fun y s2 => match x.val?, y.val? with
  | some u, some v => match cmpV o u v with
    | some true => (fc s2).bind fun z s3 => match z.val? with
      | some w => match cmpV p v w with
        | some d => .ok (.val (.bl d)) s3
        | none => .no
      | none => .no
    | some false => .ok (.val (.bl false)) s2
    | none => .no
  | _, _ => .no
theorem chnE_bl {o q : CmpOp} {s s' : Sg} {v : RV} (h : chnE o q fa fb fc s = .ok v s') : ∃ t, v = .val (.bl t) := by
  unfold chnE at h
  cases e1 : fa s with
  | ok x s1 =>
    rw [e1] at h
    dsimp only [Rs.bind] at h
    cases e2 : fb s1 with
    | ok y s2 =>
      rw [e2] at h
      dsimp only at h
      split at h
      · split at h
        · cases e3 : fc s2 with
          | ok w s3 =>
            rw [e3] at h
            dsimp only at h
            split at h
            · split at h
              · cases h; exact ⟨_, rfl⟩
              · cases h
            · cases h
          | er => rw [e3] at h; cases h
          | no => rw [e3] at h; cases h
        · cases h; exact ⟨_, rfl⟩
        · cases h
      · cases h
    | er => rw [e2] at h; cases h
    | no => rw [e2] at h; cases h
  | er => rw [e1] at h; cases h
  | no => rw [e1] at h; cases h
theorem chn_read {o q : CmpOp} : ∀ σ H Q, tOf C L W (chnE o q fa fb fc) σ H Q → tChain (rCmp C o) (rCmp C q) (tOf C L W fa) (tOf C L W fb) (tOf C L W fc) σ H Q := by
  rintro σ H Q ⟨z, p, s, k⟩
  refine ⟨z, p, s, ?_⟩
  unfold chnE at k
  cases e1 : fa p with
  | no => rw [e1] at k; exact k.elim
  | er x p1 => rw [e1] at k; exact k
  | ok x p1 =>
    rw [e1] at k
    intro v H1 z1 g1 r1
    refine ⟨z1, p1, g1.rel, ?_⟩
    dsimp only [Rs.bind] at k
    cases e2 : fb p1 with
    | no => rw [e2] at k; exact k.elim
    | er y p2 => rw [e2] at k; exact fun cls d H2 z2 g2 q => k cls d H2 z2 (g1.trans s g2) q
    | ok y p2 =>
      rw [e2] at k
      intro u H2 z2 g2 r2
      dsimp only at k
      have gg := g1.trans s g2
      have r1' := r1.go g1.rel g2
      cases e3 : x.val? with
      | none => rw [e3] at k; exact k.elim
      | some m =>
        cases e4 : y.val? with
        | none => rw [e3, e4] at k; exact k.elim
        | some n =>
          rw [e3, e4] at k
          dsimp only at k
          obtain rfl := val_of e3
          obtain rfl := val_of e4
          cases r1' with
          | val h1 =>
            cases r2 with
            | val h2 =>
              cases e5 : cmpV o m n with
              | none => rw [e5] at k; exact k.elim
              | some t =>
                rw [e5] at k
                refine ⟨z2, m, n, t, .of h1, .of h2, e5, t, rfl, ?_⟩
                cases t with
                | false => exact iteF (k _ _ _ gg (.val (.bl _)))
                | true =>
                  dsimp only at k
                  refine iteT ⟨z2, p2, gg.rel, ?_⟩
                  cases e6 : fc p2 with
                  | no => rw [e6] at k; exact k.elim
                  | er y p3 => rw [e6] at k; exact fun cls d H3 z3 g3 q => k cls d H3 z3 (gg.trans s g3) q
                  | ok w p3 =>
                    rw [e6] at k
                    intro u3 H3 z3 g3 r3
                    dsimp only at k
                    cases e7 : w.val? with
                    | none => rw [e7] at k; exact k.elim
                    | some l =>
                      rw [e7] at k
                      dsimp only at k
                      obtain rfl := val_of e7
                      cases e8 : cmpV q n l with
                      | none => rw [e8] at k; exact k.elim
                      | some d =>
                        rw [e8] at k
                        cases r3 with
                        | val h3 => exact ⟨z3, n, l, d, .of (h2.step g3.stp gg.rel.mok), .of h3, e8, k _ _ _ (gg.trans s g3) (.val (.bl _))⟩
theorem e_chn {o q : CmpOp} (hK : X.K = C.K) (hu : X.A.units + 65 < cLine) (gv : ∀ g v, C.gv g = some v → ∃ f, v = .ref f) (hm : lastMarks [o, q] [b, c] = false) (ha : PE X a (tOf C L W fa)) (hb : PE X b (tOf C L W fb)) (hc : PE X c (tOf C L W fc)) :
    PE X (.Compare a [o, q] [b, c] pos) (tOf C L W (chnE o q fa fb fc)) := PE.imp (pe_chain (op_cmp hK hu gv) (op_cmp hK hu gv) ha hb hc hm) chn_read
theorem t_chn {o q : CmpOp} (hK : X.K = C.K) (hu : X.A.units + 65 < cLine) (gv : ∀ g v, C.gv g = some v → ∃ f, v = .ref f) (hm : lastMarks [o, q] [b, c] = false) (ha : PE X a (tOf C L W fa)) (hb : PE X b (tOf C L W fb)) (hc : PE X c (tOf C L W fc)) :
    PT X (.Compare a [o, q] [b, c] pos) (tOfB C L W fun s => asB (chnE o q fa fb fc s)) :=
  PT.imp (pt_chain (op_cmp hK hu gv) (op_cmp hK hu gv) ha hb hc hm) fun σ H Q h => chn_read σ H _ (b_read (fun _ _ _ => chnE_bl) σ H Q h)
theorem PT.pw_bool {op : BoolOp} {es : List Expr} {t : TT} (h : PT X (.BoolOp op es pos) t) : PW X (.BoolOp op es pos) t := ⟨fun wh pins s σ H Q I hw => h.run pins s σ H Q I hw⟩

/-! what is walked -/
theorem valsOf1 {r : RV} {l : List PV} (h : valsOf [r] = some l) : ∃ x, valOf r = some x ∧ l = [x] := by
  unfold valsOf at h
  cases e : valOf r with
  | none => rw [e] at h; cases h
  | some x =>
    rw [e] at h
    have h2 : valsOf ([] : List RV) = some [] := rfl
    rw [h2] at h
    cases h
    exact ⟨x, rfl, rfl⟩
theorem i_val {tg l : Expr} (hK : X.K = C.K) (hl : PE X l (tOf C L W fa)) : PI X tg l (iOf C L W .val fun s => (fa s).bind fun r s1 => (Rs.ok ([] : List RV) s1).bind fun rs s2 => .ok (r :: rs) s2) := by
  refine PI.imp (pi_seq hl) ?_
  rintro σ H R ⟨z, p, s, k⟩
  refine ⟨z, p, s, ?_⟩
  dsimp only [Rs.bind] at k
  cases e1 : fa p with
  | no => rw [e1] at k; exact k.elim
  | er x p1 => rw [e1] at k; exact k
  | ok r p1 =>
    rw [e1] at k
    unfold OutI at k
    dsimp only at k
    intro v H1 z1 g1 r1
    cases e2 : valsOf [r] with
    | none => rw [e2] at k; exact k.elim
    | some l =>
      rw [e2] at k
      dsimp only at k
      obtain ⟨x, e3, rfl⟩ := valsOf1 e2
      obtain ⟨F, hF, rv⟩ := val_less r1 e3
      have g2 := g1.less s F hF
      cases x with
      | tup xs =>
        cases rv with
        | @tup a _ vs sq rp =>
          refine ⟨a, rfl, .inr ⟨⟨vs, by rw [hK]; exact sq⟩, ?_⟩⟩
          rw [hK]
          exact k _ H1 _ (GT C a xs vs) walks_tup ⟨sq, rp⟩ g2
      | lst xs =>
        cases rv with
        | @lst a _ vs sq nz rp =>
          refine ⟨a, rfl, .inl ⟨⟨vs, .of sq⟩, ?_⟩⟩
          rw [hK]
          exact k _ H1 _ (GL C a xs vs) walks_lst ⟨sq, nz, rp⟩ g2
      | _ => exact k.elim
/-- a walk by its arguments -/
theorem readI {fl : Sg → Rs (List RV)} {kd : IK} {S : List V → Hp → (It → Hp → Prop) → Prop} (hS : ∀ z H p σ (R : It → Hp → Prop) z1 H1 p1 l xs vs, SRel C L z H p σ → Go C L z H p σ z1 H1 p1 σ → RepL C z1 H1 l vs → itV kd l = some xs →
      (∀ J H' z' G, Walks C J xs G → G z' H' → Go C L z H p σ z' H' p1 σ → R J H') → S vs H1 R) :
    ∀ σ H R, iOf C L W kd fl σ H R → tOfL C L W fl σ H fun vs H1 => S vs H1 R := by
  rintro σ H R ⟨z, p, s, k⟩
  refine ⟨z, p, s, ?_⟩
  cases e1 : fl p with
  | no => rw [e1] at k; exact k
  | er x p1 => rw [e1] at k; exact k
  | ok rs p1 =>
    rw [e1] at k
    unfold OutI at k
    dsimp only at k
    intro vs H1 z1 g1 r1
    cases e2 : valsOf rs with
    | none => rw [e2] at k; exact k.elim
    | some l =>
      rw [e2] at k
      dsimp only at k
      cases e3 : itV kd l with
      | none => rw [e3] at k; exact k.elim
      | some xs =>
        rw [e3] at k
        exact hS z H p σ R _ H1 p1 l xs vs s (g1.less s (FrsIn rs vs) (frsIn_facts r1)) (vals_rep r1 e2 (FrsIn rs vs) fun a q => q) e3 k
theorem i_rng1 {tg a : Expr} {p0 : Pos} {fl : Sg → Rs (List RV)} (hg : Gl X "range") (hm : X.mg "range" = none) (ha : PA X [a] (tOfL C L W fl)) (hs : starEach [a] X.env = [(false, eval a X.env)]) : PI X tg (.Call (.Name "range" p0) [a] [] pos) (iOf C L W .rng fl) := by
  refine PI.imp (pi_range1 hg hm ha hs) (readI fun z H p σ R z1 H1 p1 l xs vs s g rl e k => ?_)
  match l, e with
  | [.int j], e =>
    unfold itV at e
    dsimp only at e
    split at e
    · rename_i hj
      cases e
      cases rl with
      | cons r rl => cases r; cases rl; exact ⟨j, rfl, hj.1, hj.2, k _ H1 z1 _ (walks_rng (lo := 0)) trivial g⟩
    · cases e
theorem i_rng2 {tg a b : Expr} {p0 : Pos} {fl : Sg → Rs (List RV)} (hg : Gl X "range") (hm : X.mg "range" = none) (ha : PA X [a, b] (tOfL C L W fl)) (hs : starEach [a, b] X.env = [(false, eval a X.env), (false, eval b X.env)]) (hs2 : starEach [b] X.env = [(false, eval b X.env)]) :
    PI X tg (.Call (.Name "range" p0) [a, b] [] pos) (iOf C L W .rng2 fl) := by
  refine PI.imp (pi_range2 hg hm ha hs hs2) (readI fun z H p σ R z1 H1 p1 l xs vs s g rl e k => ?_)
  match l, e with
  | [.int i, .int j], e =>
    unfold itV at e
    dsimp only at e
    split at e
    · rename_i hj
      cases e
      cases rl with
      | cons r rl => cases r; cases rl with | cons r rl => cases r; cases rl; exact ⟨i, j, rfl, hj, k _ H1 z1 _ (walks_rng (lo := i)) trivial g⟩
    · cases e
theorem i_zip {a b : Expr} {p0 tpos : Pos} {elts : List Expr} {kk : Nat} {fl : Sg → Rs (List RV)} (hK : X.K = C.K) (hg : Gl X "zip") (hm : X.mg "zip" = none) (ha : PA X [a, b] (tOfL C L W fl)) (hs : starEach [a, b] X.env = (false, eval a X.env) :: starEach [b] X.env) (hpl : (backTo pos (starEach [b] X.env)).any (·.1) = false) :
    PI X (.Tuple elts kk tpos) (.Call (.Name "zip" p0) [a, b] [] pos) (iOf C L W .zip fl) := by
  refine PI.imp (pi_zipA hg hm ha hs hpl) (readI fun z H p σ R z1 H1 p1 l xs vs s g rl e k => ?_)
  match l, e with
  | [.lst us, .lst ws], e =>
    cases e
    cases rl with
    | cons r rl =>
      cases rl with
      | cons r2 rl =>
        cases rl
        cases r with
        | @lst a1 _ vs1 q1 q2 q3 =>
          cases r2 with
          | @lst a2 _ vs2 q4 q5 q6 =>
            refine ⟨a1, a2, vs1, vs2, rfl, .inl ⟨.of q1, .of q4, ?_⟩⟩
            rw [hK]
            exact k _ H1 z1 _ walks_zipL ⟨⟨q1, q2, q3⟩, ⟨q4, q5, q6⟩⟩ g
  | [.tup us, .tup ws], e =>
    cases e
    cases rl with
    | cons r rl =>
      cases rl with
      | cons r2 rl =>
        cases rl
        cases r with
        | @tup a1 _ vs1 q1 q3 =>
          cases r2 with
          | @tup a2 _ vs2 q4 q6 =>
            refine ⟨a1, a2, vs1, vs2, rfl, .inr ⟨by rw [hK]; exact q1, by rw [hK]; exact q4, ?_⟩⟩
            rw [hK]
            exact k _ H1 z1 _ walks_zipT ⟨⟨q1, q3⟩, ⟨q4, q6⟩⟩ g
theorem i_enu {a : Expr} {p0 tpos : Pos} {elts : List Expr} {kk : Nat} {fl : Sg → Rs (List RV)} (hK : X.K = C.K) (hg : Gl X "enumerate") (hm : X.mg "enumerate" = none) (ha : PA X [a] (tOfL C L W fl)) (hs : starEach [a] X.env = [(false, eval a X.env)]) :
    PI X (.Tuple elts kk tpos) (.Call (.Name "enumerate" p0) [a] [] pos) (iOf C L W .enu fl) := by
  refine PI.imp (pi_enum hg hm ha hs) (readI fun z H p σ R z1 H1 p1 l xs vs s g rl e k => ?_)
  match l, e with
  | [.lst us], e =>
    cases e
    cases rl with
    | cons r rl =>
      cases rl
      cases r with
      | @lst a1 _ vs1 q1 q2 q3 =>
        refine ⟨a1, vs1, rfl, .of q1, ?_⟩
        rw [hK]
        exact k _ H1 z1 _ walks_enu ⟨q1, q2, q3⟩ g
end
end Mp

/-! MpP: small facts for the check: stars, stores, constants, reversed lists. -/
namespace Mp
open PySem PySem.Spec PyProof.Rows L2 RZ

def noStar : Expr → Bool
  | .Starred _ _ => false
  | _ => true
theorem star_cons {e : Expr} (h : noStar e = true) (es : List Expr) (env : Env) : starEach (e :: es) env = (false, eval e env) :: starEach es env := by
  cases e <;> first | rfl | (simp [noStar] at h; done)
theorem star_all : ∀ (es : List Expr) (env : Env) (pos : Pos), es.all noStar = true → (backTo pos (starEach es env)).any (·.1) = false
  | [], _, _, _ => rfl
  | e :: es, env, pos, h => by
    simp only [List.all_cons, Bool.and_eq_true] at h
    rw [star_cons h.1]
    show (false || (backTo pos (starEach es env)).any (·.1)) = false
    rw [Bool.false_or]
    exact star_all es env pos h.2
theorem asE_cons {e : Expr} (h : noStar e = true) (es : List Expr) (env : Env) : assignEach (e :: es) env = (false, assign e env) :: assignEach es env := by
  cases e <;> first | rfl | (simp [noStar] at h; done)
theorem asE_len : ∀ (es : List Expr) (env : Env), (assignEach es env).length = es.length
  | [], _ => rfl
  | e :: es, env => by
    have ih := asE_len es env
    cases e <;> (show (assignEach es env).length + 1 = es.length + 1; rw [ih])
theorem asE_none : ∀ (es : List Expr) (env : Env), es.all noStar = true → (assignEach es env).findIdx? (·.1) = none
  | [], _, _ => rfl
  | e :: es, env, h => by
    simp only [List.all_cons, Bool.and_eq_true] at h
    rw [asE_cons h.1, List.findIdx?_cons, asE_none es env h.2]
    rfl
def noComp : Expr → Bool
  | .ListComp .. => false
  | .SetComp .. => false
  | .DictComp .. => false
  | _ => true
theorem swaps_none {e : Expr} (h : noComp e = true) (t : Option Expr) (l : Nat) (env : Env) : swapsWith e t l env = pure false := by
  cases e <;> first | rfl | (simp [noComp] at h; done)
def noSet : Expr → Bool
  | .Set .. => false
  | _ => true
theorem fold_none {e : Expr} (h : noSet e = true) (env : Env) (x : Value) : foldedSetIterable e env x = pure x := by
  cases e <;> first | rfl | (simp [noSet] at h; done)
def noSlice : Expr → Bool
  | .Slice .. => false
  | _ => true
theorem plain_ix {e : Expr} (h : noSlice e = true) : PlainIx e := by
  intro o i
  cases e <;> first | rfl | (simp [noSlice] at h; done)
def noTup : Expr → Bool
  | .Tuple .. => false
  | _ => true
/-- a tuple of targets, stored one by one -/
theorem stores_plain {es : List Expr} {k : Nat} {pos : Pos} {v : Expr} {env : Env} (h : noTup v = true) : swappedStores [.Tuple es k pos] v env = pure none := by
  cases v <;> first | rfl | (simp [noTup] at h; done)
theorem stores_long {es vs : List Expr} {k k2 : Nat} {pos p2 : Pos} {env : Env} (h : (!(es.length == 2 || es.length == 3) || vs.length != es.length) = true) : swappedStores [.Tuple es k pos] (.Tuple vs k2 p2) env = pure none := by
  unfold swappedStores
  simp only [h, Bool.true_or]
  rfl
def parNames (sc : Scope) (ts : List Expr) : Option (List Str) :=
  let line := (ts.head?.map (·.pos.line)).getD 0
  let names := ts.filterMap fun
    | .Name id pos => if sc.names.lookup id == some .local && pos.line == line then some id else none
    | _ => none
  if names.length != ts.length || names.eraseDups.length != names.length then none else some names
theorem stores_other {ts vs : List Expr} {k k2 : Nat} {pos p2 : Pos} {env : Env} (h : (parNames env.scope ts).isNone = true ∨ vs.all (foldedForSure 8) = true) : swappedStores [.Tuple ts k pos] (.Tuple vs k2 p2) env = pure none := by
  unfold swappedStores
  by_cases h1 : (!(ts.length == 2 || ts.length == 3) || vs.length != ts.length || env.blockKind != .function) = true
  · exact if_pos h1
  · refine (if_neg h1).trans ?_
    by_cases h2 : (vs.any fun | .Starred .. => true | _ => false) = true
    · exact if_pos h2
    · refine (if_neg h2).trans ?_
      rcases h with h | h
      · unfold parNames at h
        dsimp only at h
        split at h
        · rename_i hn
          exact if_pos hn
        · cases h
      · refine ite_eq_left_iff.mpr fun _ => ?_
        exact if_pos h
theorem stores_sub {a b v : Expr} {pos : Pos} {env : Env} : swappedStores [.Subscript a b pos] v env = pure none := by
  cases v <;> rfl
theorem stores_par {ts vs : List Expr} {k k2 : Nat} {pos p2 : Pos} {env : Env} {ns : List Str} (h1 : (!(ts.length == 2 || ts.length == 3) || vs.length != ts.length) = false) (hk : env.scope.kind = .function)
    (h2 : vs.all noStar = true) (h3 : parNames env.scope ts = some ns) (h4 : vs.all (foldedForSure 8) = false) (h5 : vs.all (constantsAlone 8) = false) : swappedStores [.Tuple ts k pos] (.Tuple vs k2 p2) env = pure (some ns) := by
  have hb : env.blockKind = .function := by unfold Env.blockKind; rw [hk]; rfl
  have hs : (vs.any fun | .Starred .. => true | _ => false) = false := by
    rw [List.any_eq_false]
    intro e he
    have := List.all_eq_true.mp h2 e he
    cases e <;> first | (simp; done) | (simp [noStar] at this; done)
  unfold parNames at h3
  dsimp only at h3
  split at h3
  · cases h3
  · rename_i hn
    cases h3
    unfold swappedStores
    simp only [h1, hb, h4, h5]
    refine (if_neg (by decide)).trans ((if_neg fun q => absurd (hs.symm.trans q) (by decide)).trans ((if_neg hn).trans ?_))
    rfl
end Mp

/-! MpC: the check of a text against its core text. -/
namespace Mp
open PySem PySem.Spec PyProof.Rows L2 RZ

structure Tb where
  tb : Nat → Option Fd
  cs : List (Str × PV)
/-- where a text stands: its scope, its names, the slots that are lent, whether it is a def's own level -/
structure Pl where
  sc : Scope
  N : List Str
  mp : List Nat
  fc : Bool

def okName (x : Str) : Bool := !(x == ("__debug__" : Str)) && !(x == ("__classdict__" : Str))
def visB (sc : Scope) (x : Str) : Bool := match sc.names.lookup x with
  | some .local => true
  | some .cell => true
  | some .free => true
  | _ => false
def glB (sc : Scope) (x : Str) : Bool := match sc.names.lookup x with
  | some .globalImplicit => true
  | _ => false
def locB (sc : Scope) (x : Str) : Bool := match sc.names.lookup x with
  | some .local => true
  | _ => false
def varB (A : Pl) (i : Nat) (x : Str) : Bool := decide (A.N[i]? = some x) && visB A.sc x && okName x
def storeB (A : Pl) (i : Nat) (x : Str) : Bool := decide (A.N[i]? = some x) && !A.mp.contains i && (match A.sc.names.lookup x with
  | some .local => true
  | some .cell => A.fc
  | _ => false)
def tyNames : List String := ["int", "bool", "str", "tuple", "list", "dict"]
def tyB (x : Str) : PV → Bool
  | .ty n => decide (x = Str.ofString n) && tyNames.contains n
  | _ => false
def conB : Const → PV → Bool
  | .none, .non => true
  | .bool b, .bl b' => b == b'
  | .int i, .int j => decide (i = j)
  | .str s, .str t => decide (s = t)
  | _, _ => false
def cstB (P : Tb) (A : Pl) (v : PV) : Expr → Bool
  | .Constant c _ _ => conB c v
  | .Name x _ => glB A.sc x && okName x && (match P.cs.lookup x with
    | some v' => v'.beq v
    | none => tyB x v)
  | _ => false
def isTupE : Expr → Bool
  | .Tuple .. => true
  | _ => false
def iterArgs (A : Pl) (k : IK) (tg : Expr) : Expr → Option (List Expr)
  | .Call (.Name x _) [a] [] _ => match k with
    | .rng => if x = ("range" : Str) ∧ glB A.sc x = true then some [a] else none
    | .enu => if x = ("enumerate" : Str) ∧ glB A.sc x = true ∧ isTupE tg = true then some [a] else none
    | _ => none
  | .Call (.Name x _) [a, b] [] _ => match k with
    | .rng2 => if x = ("range" : Str) ∧ glB A.sc x = true then some [a, b] else none
    | .zip => if x = ("zip" : Str) ∧ glB A.sc x = true ∧ isTupE tg = true then some [a, b] else none
    | _ => none
  | _ => none
def ownNames (A : Pl) (own : List Nat) : List (Str × Nat) := own.map fun i => ((A.N[i]?).getD ("" : Str), i)
def blkPl (A : Pl) (scope : Scope) : Pl := { A with sc := relS scope A.sc, fc := false }
def plainT : Expr → Bool
  | .BoolOp .. => false
  | .UnaryOp .Not _ _ => false
  | .IfExp .. => false
  | .Compare .. => false
  | _ => true
mutual
def chkTg (A : Pl) : Tg → Expr → Bool
  | .nm i, .Name x _ => storeB A i x
  | .tp ts, .Tuple es _ _ => chkTgs A ts es
  | _, _ => false
def chkTgs (A : Pl) : List Tg → List Expr → Bool
  | [], [] => true
  | t :: ts, e :: es => noStar e && chkTg A t e && chkTgs A ts es
  | _, _ => false
end
mutual
def chkE (P : Tb) (A : Pl) : CE → Expr → Bool
  | .var i, e => match e with
    | .Name x _ => varB A i x
    | _ => false
  | .bor i, e => match e with
    | .Name x _ => varB A i x
    | _ => false
  | .cst v, e => cstB P A v e
  | .bin op a b, e => match e with
    | .BinOp x op' y _ => decide (op' = op) && chkE P A a x && chkE P A b y
    | _ => false
  | .neg a, e => match e with
    | .UnaryOp .USub x _ => chkE P A a x
    | _ => false
  | .not a, e => match e with
    | .UnaryOp .Not x _ => chkE P A a x
    | _ => false
  | .and a b, e => match e with
    | .BoolOp .And (x :: y :: rest) pos => chkE P A a x && (match rest with
      | [] => chkE P A b y
      | z :: rest => chkE P A b (.BoolOp .And (y :: z :: rest) pos))
    | _ => false
  | .or a b, e => match e with
    | .BoolOp .Or (x :: y :: rest) pos => chkE P A a x && (match rest with
      | [] => chkE P A b y
      | z :: rest => chkE P A b (.BoolOp .Or (y :: z :: rest) pos))
    | _ => false
  | .andT _ _, _ => false
  | .orT _ _, _ => false
  | .notT _, _ => false
  | .tru _, _ => false
  | .cmp op a b, e => match e with
    | .Compare x [op'] [y] _ => decide (op' = op) && !behindInMarks op y && chkE P A a x && chkE P A b y
    | _ => false
  | .chn o p a b c, e => match e with
    | .Compare x [o', p'] [y, z] _ => decide (o' = o) && decide (p' = p) && !lastMarks [o, p] [y, z] && chkE P A a x && chkE P A b y && chkE P A c z
    | _ => false
  | .ife t a b, e => match e with
    | .IfExp x y z _ => chkT P A t x && chkE P A a y && chkE P A b z
    | _ => false
  | .tup es, e => match e with
    | .Tuple xs _ _ => chkEs P A es xs
    | _ => false
  | .lst es, e => match e with
    | .List xs _ => chkEs P A es xs
    | _ => false
  | .sub a b, e => match e with
    | .Subscript x y _ => noSlice y && chkE P A a x && chkE P A b y
    | _ => false
  | .slc a lo hi, e => match e with
    | .Subscript x (.Slice l h none _) _ => chkE P A a x && chkO P A lo l && chkO P A hi h
    | _ => false
  | .cal g es, e => match e with
    | .Call (.Name x _) xs [] _ => (match P.tb g with
      | some d => decide (x = d.name) && okName x && glB A.sc x
      | none => false) && chkEs P A es xs
    | _ => false
  | .bui b es, e => match e with
    | .Call (.Name x _) (y :: ys) [] _ => decide (x = biName b) && glB A.sc x && chkEs P A es (y :: ys)
    | _ => false
  | .rev a, e => match e with
    | .Subscript x (.Slice none none (some (.UnaryOp .USub (.Constant (.int 1) _ _) _)) _) _ => chkE P A a x
    | _ => false
  | .ded, _ => true
  | .lc own tg k src ifs e, e' => match e' with
    | .ListComp elt [⟨etg, iter, eifs, 0⟩] scope _ => noSet iter && blkC A.N A.sc scope (ownNames A own) && (match k with
        | .val => chkEs P A src [iter]
        | k => match iterArgs A k etg iter with
          | some args => chkEs P A src args
          | none => false) && chkTg (blkPl A scope) tg etg && tg.slots.all own.contains && own.all (fun i => !A.mp.contains i)
        && decide (eifs.length ≤ 1) && chkTs P (blkPl A scope) ifs eifs && chkE P (blkPl A scope) e elt
    | _ => false
def chkEs (P : Tb) (A : Pl) : List CE → List Expr → Bool
  | [], es => match es with
    | [] => true
    | _ => false
  | c :: cs, es => match es with
    | e :: es => noStar e && chkE P A c e && chkEs P A cs es
    | [] => false
def chkO (P : Tb) (A : Pl) : Option CE → Option Expr → Bool
  | none, o => match o with
    | none => true
    | _ => false
  | some c, o => match o with
    | some e => chkE P A c e
    | _ => false
def chkTs (P : Tb) (A : Pl) : List CE → List Expr → Bool
  | [], es => match es with
    | [] => true
    | _ => false
  | c :: cs, es => match es with
    | e :: es => chkT P A c e && chkTs P A cs es
    | [] => false
def chkT (P : Tb) (A : Pl) : CE → Expr → Bool
  | .andT a b, e => match e with
    | .BoolOp .And (x :: y :: rest) pos => chkT P A a x && (match rest with
      | [] => chkT P A b y
      | z :: rest => chkT P A b (.BoolOp .And (y :: z :: rest) pos))
    | _ => false
  | .orT a b, e => match e with
    | .BoolOp .Or (x :: y :: rest) pos => chkT P A a x && (match rest with
      | [] => chkT P A b y
      | z :: rest => chkT P A b (.BoolOp .Or (y :: z :: rest) pos))
    | _ => false
  | .notT a, e => match e with
    | .UnaryOp .Not x _ => chkT P A a x
    | _ => false
  | .cmp op a b, e => match e with
    | .Compare x [op'] [y] _ => decide (op' = op) && !behindInMarks op y && chkE P A a x && chkE P A b y
    | _ => false
  | .chn o p a b c, e => match e with
    | .Compare x [o', p'] [y, z] _ => decide (o' = o) && decide (p' = p) && !lastMarks [o, p] [y, z] && chkE P A a x && chkE P A b y && chkE P A c z
    | _ => false
  | .ded, _ => true
  | .tru a, e => plainT e && chkE P A a e
  | _, _ => false
end
end Mp

/-! MpD: what the check of an expression means. -/
namespace Mp
open PySem PySem.Spec PyProof.Rows L2 RZ

structure Ok (C : Ctx) (L : Act) (W : WX) (k : Nat) (A : Pl) (X : Cx) : Prop where
  x : XOk C W k X A.N A.sc
  kind : A.sc.kind = .function
  fl : A.fc = true → ∀ x, X.fn x = true
  mp : ∀ i, A.mp.contains i = false → i ∉ L.mp.map (·.1)
structure GOk (C : Ctx) (P : Tb) (k : Nat) (cl : Cl) : Prop where
  tb : C.tb = P.tb
  cs : ∀ x v, P.cs.lookup x = some v → ∃ u w, C.mg x = some u ∧ RelV w u ∧ ∀ z H, Rep C z H v w
  ty : ∀ n ∈ tyNames, C.mg (Str.ofString n) = none
  bi : ∀ b, C.mg (biName b) = none
  rg : C.mg "range" = none
  zp : C.mg "zip" = none
  en : C.mg "enumerate" = none
  df : ∀ g d, P.tb g = some d → DefOk C k cl g d

mutual
theorem beq_eq : ∀ (x y : PV), x.beq y = true → x = y
  | .non, y, h => by cases y <;> simp_all [PV.beq]
  | .bl a, y, h => by cases y <;> simp_all [PV.beq]
  | .int a, y, h => by cases y <;> simp_all [PV.beq]
  | .str a, y, h => by
    cases y <;> simp_all [PV.beq]
    rename_i b
    cases a; cases b; simp_all
  | .ty a, y, h => by cases y <;> simp_all [PV.beq]
  | .fn a, y, h => by cases y <;> simp_all [PV.beq]
  | .frz a, y, h => by cases y <;> simp_all [PV.beq]
  | .tup a, y, h => by
    cases y <;> first | (simp [PV.beq] at h; done) | skip
    rw [beqL_eq a _ (by simpa [PV.beq] using h)]
  | .lst a, y, h => by
    cases y <;> first | (simp [PV.beq] at h; done) | skip
    rw [beqL_eq a _ (by simpa [PV.beq] using h)]
theorem beqL_eq : ∀ (x y : List PV), PV.beqL x y = true → x = y
  | [], y, h => by cases y <;> simp_all [PV.beqL]
  | x :: xs, y, h => by
    cases y with
    | nil => simp [PV.beqL] at h
    | cons y ys =>
      simp only [PV.beqL, Bool.and_eq_true] at h
      rw [beq_eq x y h.1, beqL_eq xs ys h.2]
end
theorem boot_ty : ∀ n ∈ tyNames, bootBuiltins (Str.ofString n) = some (.type n) ∧ Str.ofString n ≠ "__name__" := by
  intro n h
  simp only [tyNames, List.mem_cons, List.not_mem_nil, or_false] at h
  rcases h with rfl | rfl | rfl | rfl | rfl | rfl <;> exact ⟨by rfl, by decide⟩
section
variable {C : Ctx} {L : Act} {W : WX} {k : Nat} {A : Pl} {X : Cx} {P : Tb} {cl : Cl}
theorem Ok.gl {x : Str} (o : Ok C L W k A X) (h : glB A.sc x = true) : Gl X x := by
  show X.env.scope.names.lookup x = some .globalImplicit
  rw [o.x.sc]
  unfold glB at h
  split at h
  · assumption
  · cases h
theorem Ok.vis {x : Str} (o : Ok C L W k A X) (h : visB A.sc x = true) : Vis X.env.scope x := by
  unfold Vis
  rw [o.x.sc]
  unfold visB at h
  split at h
  · exact .inl (by assumption)
  · exact .inr (.inl (by assumption))
  · exact .inr (.inr (by assumption))
  · cases h
theorem okName_of {x : Str} (h : okName x = true) : (x == ("__debug__" : Str)) = false ∧ (x == ("__classdict__" : Str)) = false := by
  unfold okName at h
  simpa using h
theorem var_ok {i : Nat} {x : Str} {p : Pos} (o : Ok C L W k A X) (h : varB A i x = true) : PE X (.Name x p) (tVar i) := by
  unfold varB at h
  simp only [Bool.and_eq_true, decide_eq_true_eq] at h
  obtain ⟨⟨h1, h2⟩, h3⟩ := h
  exact pe_var (by rw [o.x.names]; exact h1) (o.vis h2) (okName_of h3).1 (okName_of h3).2
theorem store_ok' {i : Nat} {x : Str} (o : Ok C L W k A X) (h : storeB A i x = true) : X.N.Nodup ∧ X.N[i]? = some x ∧ L2.Loc X.env.scope x ∧ (X.fn x = true ∨ X.env.scope.names.lookup x = some .local) ∧ i ∉ L.mp.map (·.1) := by
  unfold storeB at h
  simp only [Bool.and_eq_true, decide_eq_true_eq, Bool.not_eq_true'] at h
  obtain ⟨⟨h1, h2⟩, h3⟩ := h
  refine ⟨by rw [o.x.names]; exact o.x.nd, by rw [o.x.names]; exact h1, ?_, ?_, o.mp i h2⟩
  · unfold L2.Loc
    rw [o.x.sc]
    split at h3
    · exact .inl (by assumption)
    · exact .inr (by assumption)
    · cases h3
  · rw [o.x.sc]
    split at h3
    · exact .inr (by assumption)
    · exact .inl (o.fl h3 x)
    · cases h3
theorem cst_ok {v : PV} {e : Expr} (G : GOk C P k cl) (o : Ok C L W k A X) (h : cstB P A v e = true) : PE X e (tOf C L W fun s => .ok (.val v) s) := by
  unfold cstB at h
  split at h
  · rename_i c _ _
    unfold conB at h
    split at h
    · exact e_con pe_non fun z H => .non
    · obtain rfl := eq_of_beq h; exact e_con pe_bl fun z H => .bl _
    · obtain rfl := of_decide_eq_true h; exact e_con pe_int fun z H => .int _
    · obtain rfl := of_decide_eq_true h; exact e_con pe_str fun z H => .str _
    · cases h
  · rename_i x _
    simp only [Bool.and_eq_true] at h
    obtain ⟨⟨h1, h2⟩, h3⟩ := h
    split at h3
    · rename_i v' hv
      obtain rfl := beq_eq _ _ h3
      obtain ⟨u, w, m, r, rp⟩ := G.cs _ _ hv
      exact e_con (pe_glob (o.gl h1) (by rw [o.x.mg]; exact m) r (okName_of h2).1) rp
    · unfold tyB at h3
      split at h3
      · rename_i n
        simp only [Bool.and_eq_true, decide_eq_true_eq, List.contains_iff_mem] at h3
        obtain ⟨rfl, hn⟩ := h3
        exact e_con (pe_bltn (o.gl h1) (by rw [o.x.mg]; exact G.ty n hn) (boot_ty n hn).1 (show RelV (.ty n) (.type n) from rfl) (boot_ty n hn).2 (okName_of h2).1) fun z H => .ty _
      · cases h3
  · cases h
theorem RepL.rev {z : As} {H : Hp} : ∀ {xs : List PV} {vs : List V}, RepL C z H xs vs → RepL C z H xs.reverse vs.reverse
  | [], _, h => by cases h; exact .nil
  | _ :: _, _, h => by
    cases h with
    | cons a b => rw [List.reverse_cons, List.reverse_cons]; exact (RepL.rev b).append (.cons a .nil)
theorem e_rev {a : Expr} {fa : Sg → Rs RV} {kk : Nat} {p1 p2 p3 pos : Pos} (hK : X.K = C.K) (ha : PE X a (tOf C L W fa)) : PE X (.Subscript a (.Slice none none (some (.UnaryOp .USub (.Constant (.int 1) kk p1) p2)) p3) pos) (tOf C L W fun s => (fa s).bind fun x s1 => match deref s1 x with
    | some (.lst l) => .ok (.frs (.lst l.reverse)) s1
    | _ => .no) := by
  refine PE.imp (pe_revL ha) (read1 (r := fun x H1 Q => ∃ a xs, x = .ref a ∧ SqL X.K H1 a xs ∧ ∀ p, H1 p = none → Q (.ref p) (upd H1 p (.lst xs.reverse))) fun z H p σ Q z2 H2 p2 x v s g r q => ?_)
  cases e : deref p2 x with
  | none => rw [e] at q; exact q.elim
  | some y =>
    rw [e] at q
    cases y with
    | lst l =>
      obtain ⟨b, vs, rfl, sq, rp⟩ := (deref_top g.rel r e).lsts
      exact ⟨b, vs, rfl, .of sq, fun p n => (Ans.lst n rp.rev).fin s g q⟩
    | _ => exact q.elim
theorem tg_nm {i : Nat} {x : Str} {p : Pos} (o : Ok C L W k A X) (h : storeB A i x = true) : PG X (.Name x p) (gOf C L (.nm i)) := by
  obtain ⟨h1, h2, h3, h4, h5⟩ := store_ok' o h
  exact g_nm (pg_name h1 h2 h3 h4) h5
mutual
theorem okTg (o : Ok C L W k A X) : ∀ (t : Tg) (e : Expr), chkTg A t e = true → PG X e (gOf C L t)
  | .nm i, e, h => by
    cases e <;> first | exact tg_nm o (by simpa [chkTg] using h) | (simp [chkTg] at h; done)
  | .tp ts, e, h => by
    cases e <;> first | (simp [chkTg] at h; done) | skip
    rename_i es kk pos
    obtain ⟨q1, q2, q3⟩ := okTgs o ts es (by simpa [chkTg] using h)
    exact g_tp o.x.K o.x.calm q1 (by rw [asE_len, q2]) (asE_none _ _ q3)
theorem okTgs (o : Ok C L W k A X) : ∀ (t : List Tg) (e : List Expr), chkTgs A t e = true → PGs X e (gsOf C L t) ∧ e.length = t.length ∧ e.all noStar = true
  | [], e, h => by
    cases e with
    | nil => exact ⟨gs_nil, rfl, rfl⟩
    | cons _ _ => simp [chkTgs] at h
  | t :: ts, e, h => by
    cases e with
    | nil => simp [chkTgs] at h
    | cons e es =>
      simp only [chkTgs, Bool.and_eq_true] at h
      obtain ⟨⟨h1, h2⟩, h3⟩ := h
      obtain ⟨q1, q2, q3⟩ := okTgs o ts es h3
      exact ⟨gs_cons (okTg o t e h2) q1 (by rw [asE_cons h1]; rfl), by simp [q2], by simp [h1, q3]⟩
end
end
end Mp

/-! MpF2: the check of expressions is right. -/
namespace Mp
open PySem PySem.Spec PyProof.Rows L2 RZ

section
variable {C : Ctx} {L : Act} {k : Nat} {P : Tb} {cl : Cl}
theorem Ok.blk {W : WX} {A : Pl} {X : Cx} (o : Ok C L W k A X) (s : Shared) (H : Hp) (scope : Scope) (hk : scope.kind = .function) (D : Addr) (cl : List (Str × Addr)) (fp : List Addr) : Ok C L W0 k (blkPl A scope) (X.blk s H scope (compEnvC scope cl D X.env) fp) where
  x := ⟨o.x.prog, o.x.w, o.x.K, o.x.mg, o.x.base, o.x.names, o.x.nd, by
    show (compEnvC scope cl D X.env).scope = relS scope A.sc
    rw [← o.x.sc]; rfl, o.x.calm, o.x.room, o.x.gd, takes0, PassesOwn.never, o.x.gv⟩
  kind := hk
  fl := fun h => by cases h
  mp := o.mp
theorem asB_id (r : Rs Bool) : asB (r.bind fun d s2 => .ok (.val (.bl d)) s2) = r := by
  rw [asB_bind]
  cases r <;> rfl
theorem own_ix {A : Pl} {own : List Nat} : (ownNames A own).map (·.2) = own := by
  unfold ownNames
  rw [List.map_map]
  induction own with
  | nil => rfl
  | cons a l ih => rw [List.map_cons, ih]; rfl
theorem okEs_star {A : Pl} : ∀ (c : List CE) (e : List Expr), chkEs P A c e = true → e.all noStar = true
  | [], e, h => by
    unfold chkEs at h
    cases e with
    | nil => rfl
    | cons _ _ => cases h
  | c :: cs, e, h => by
    unfold chkEs at h
    cases e with
    | nil => cases h
    | cons e es =>
      simp only [Bool.and_eq_true] at h
      simp only [List.all_cons, h.1.1, okEs_star cs es h.2, Bool.and_self]
theorem iter_ok {W : WX} {A : Pl} {X : Cx} (G : GOk C P k cl) (o : Ok C L W k A X) {kd : IK} {tg iter : Expr} {args : List Expr} {fl : Sg → Rs (List RV)} (h : iterArgs A kd tg iter = some args) (ha : PA X args (tOfL C L W fl)) (hs : args.all noStar = true) : PI X tg iter (iOf C L W kd fl) := by
  unfold iterArgs at h
  split at h
  · cases kd <;> first | (cases h; done) | skip
    · dsimp only at h
      split at h
      · rename_i q
        obtain ⟨rfl, q2⟩ := q
        cases h
        simp only [List.all_cons, List.all_nil, Bool.and_true] at hs
        exact i_rng1 (o.gl q2) (by rw [o.x.mg]; exact G.rg) ha (star_cons hs _ _)
      · cases h
    · dsimp only at h
      split at h
      · rename_i q
        obtain ⟨rfl, q2, q3⟩ := q
        cases h
        simp only [List.all_cons, List.all_nil, Bool.and_true] at hs
        cases tg <;> first | (simp [isTupE] at q3; done) | skip
        exact i_enu o.x.K (o.gl q2) (by rw [o.x.mg]; exact G.en) ha (star_cons hs _ _)
      · cases h
  · cases kd <;> first | (cases h; done) | skip
    · dsimp only at h
      split at h
      · rename_i q
        obtain ⟨rfl, q2⟩ := q
        cases h
        simp only [List.all_cons, List.all_nil, Bool.and_true, Bool.and_eq_true] at hs
        exact i_rng2 (o.gl q2) (by rw [o.x.mg]; exact G.rg) ha (by rw [star_cons hs.1, star_cons hs.2]; rfl) (star_cons hs.2 _ _)
      · cases h
    · dsimp only at h
      split at h
      · rename_i q
        obtain ⟨rfl, q2, q3⟩ := q
        cases h
        simp only [List.all_cons, List.all_nil, Bool.and_true, Bool.and_eq_true] at hs
        cases tg <;> first | (simp [isTupE] at q3; done) | skip
        exact i_zip o.x.K (o.gl q2) (by rw [o.x.mg]; exact G.zp) ha (star_cons hs.1 _ _) (star_all _ _ _ (by simp [hs.2]))
      · cases h
  · cases h
mutual
theorem okE (G : GOk C P k cl) : ∀ (c : CE) (W : WX) (A : Pl) (X : Cx) (o : Ok C L W k A X) (e : Expr), chkE P A c e = true → PE X e (tOf C L W (evE cl C.tb c))
  | .var i, W, A, X, o, e, h => by
    unfold chkE at h
    split at h
    · exact e_var (var_ok o h)
    · cases h
  | .bor i, W, A, X, o, e, h => by
    unfold chkE at h
    split at h
    · exact e_bor (var_ok o h)
    · cases h
  | .cst v, W, A, X, o, e, h => by
    unfold chkE at h
    exact cst_ok G o h
  | .bin op a b, W, A, X, o, e, h => by
    unfold chkE at h
    split at h
    · simp only [Bool.and_eq_true, decide_eq_true_eq] at h
      obtain ⟨⟨rfl, h1⟩, h2⟩ := h
      exact e_bin o.x.K (okE G a W A X o _ h1) (okE G b W A X o _ h2)
    · cases h
  | .neg a, W, A, X, o, e, h => by
    unfold chkE at h
    split at h
    · exact e_neg (okE G a W A X o _ h)
    · cases h
  | .not a, W, A, X, o, e, h => by
    unfold chkE at h
    split at h
    · exact e_not o.x.K (okE G a W A X o _ h)
    · cases h
  | .and a b, W, A, X, o, e, h => by
    unfold chkE at h
    split at h
    · simp only [Bool.and_eq_true] at h
      obtain ⟨h1, h2⟩ := h
      refine e_and (okE G a W A X o _ h1) ?_
      split at h2
      · exact pe_one (okE G b W A X o _ h2)
      · exact okE G b W A X o _ h2
    · cases h
  | .or a b, W, A, X, o, e, h => by
    unfold chkE at h
    split at h
    · simp only [Bool.and_eq_true] at h
      obtain ⟨h1, h2⟩ := h
      refine e_or (okE G a W A X o _ h1) ?_
      split at h2
      · exact pe_one (okE G b W A X o _ h2)
      · exact okE G b W A X o _ h2
    · cases h
  | .andT _ _, W, A, X, o, e, h => by unfold chkE at h; cases h
  | .orT _ _, W, A, X, o, e, h => by unfold chkE at h; cases h
  | .notT _, W, A, X, o, e, h => by unfold chkE at h; cases h
  | .tru _, W, A, X, o, e, h => by unfold chkE at h; cases h
  | .ded, W, A, X, o, e, h => ⟨fun pins s σ H Q I ⟨_, _, _, q⟩ => by unfold evE at q; exact q.elim⟩
  | .cmp op a b, W, A, X, o, e, h => by
    unfold chkE at h
    split at h
    · simp only [Bool.and_eq_true, decide_eq_true_eq, Bool.not_eq_true'] at h
      obtain ⟨⟨⟨rfl, h0⟩, h1⟩, h2⟩ := h
      exact e_cmp o.x.K o.x.hu o.x.gv h0 (okE G a W A X o _ h1) (okE G b W A X o _ h2)
    · cases h
  | .chn q p a b c, W, A, X, o, e, h => by
    unfold chkE at h
    split at h
    · simp only [Bool.and_eq_true, decide_eq_true_eq, Bool.not_eq_true'] at h
      obtain ⟨⟨⟨⟨⟨rfl, rfl⟩, h0⟩, h1⟩, h2⟩, h3⟩ := h
      exact e_chn o.x.K o.x.hu o.x.gv h0 (okE G a W A X o _ h1) (okE G b W A X o _ h2) (okE G c W A X o _ h3)
    · cases h
  | .ife t a b, W, A, X, o, e, h => by
    unfold chkE at h
    split at h
    · simp only [Bool.and_eq_true] at h
      obtain ⟨⟨h0, h1⟩, h2⟩ := h
      exact e_ife (okT G t W A X o _ h0) (okE G a W A X o _ h1) (okE G b W A X o _ h2)
    · cases h
  | .tup es, W, A, X, o, e, h => by
    unfold chkE at h
    split at h
    · exact e_tup (okEs G es W A X o _ h).1
    · cases h
  | .lst es, W, A, X, o, e, h => by
    unfold chkE at h
    split at h
    · exact e_lst (okEs G es W A X o _ h).1
    · cases h
  | .sub a b, W, A, X, o, e, h => by
    unfold chkE at h
    split at h
    · simp only [Bool.and_eq_true] at h
      obtain ⟨⟨h0, h1⟩, h2⟩ := h
      exact e_sub o.x.K (plain_ix h0) (okE G a W A X o _ h1) (okE G b W A X o _ h2)
    · cases h
  | .slc a lo hi, W, A, X, o, e, h => by
    unfold chkE at h
    split at h
    · simp only [Bool.and_eq_true] at h
      obtain ⟨⟨h0, h1⟩, h2⟩ := h
      exact e_slc o.x.K (okE G a W A X o _ h0) (okO G lo W A X o _ h1) (okO G hi W A X o _ h2)
    · cases h
  | .cal g es, W, A, X, o, e, h => by
    unfold chkE at h
    split at h
    · simp only [Bool.and_eq_true] at h
      obtain ⟨h0, h1⟩ := h
      split at h0
      · rename_i d hd
        simp only [Bool.and_eq_true, decide_eq_true_eq] at h0
        obtain ⟨⟨rfl, h2⟩, h3⟩ := h0
        obtain ⟨r1, r2⟩ := okEs G es W A X o _ h1
        have hd' : C.tb g = some d := by rw [G.tb]; exact hd
        cases es with
        | nil =>
          cases r2.1 rfl
          exact e_cal0 o.x hd' (G.df g d hd) (o.gl h3) (okName_of h2).1
        | cons c cs =>
          obtain ⟨e1, es1, rfl, r4⟩ := r2.2 c cs rfl
          simp only [List.all_cons, Bool.and_eq_true] at r4
          exact e_cal o.x hd' (G.df g d hd) (o.gl h3) (okName_of h2).1 r1 (star_cons r4.1 _ _) (star_all _ _ _ r4.2)
      · cases h0
    · cases h
  | .bui b es, W, A, X, o, e, h => by
    unfold chkE at h
    split at h
    · simp only [Bool.and_eq_true, decide_eq_true_eq] at h
      obtain ⟨⟨rfl, h2⟩, h3⟩ := h
      obtain ⟨r1, r2⟩ := okEs G es W A X o _ h3
      cases es with
      | nil => cases r2.1 rfl
      | cons c cs =>
        obtain ⟨e1, es1, q, r4⟩ := r2.2 c cs rfl
        cases q
        simp only [List.all_cons, Bool.and_eq_true] at r4
        exact e_bui o.x.K o.x.calm o.x.gd o.x.hu (o.gl h2) (by rw [o.x.mg]; exact G.bi b) r1 (star_cons r4.1 _ _) (star_all _ _ _ r4.2)
    · cases h
  | .rev a, W, A, X, o, e, h => by
    unfold chkE at h
    split at h
    · exact e_rev o.x.K (okE G a W A X o _ h)
    · cases h
  | .lc own tg kd src ifs e, W, A, X, o, e', h => by
    unfold chkE at h
    split at h
    · rename_i elt etg iter eifs scope pos
      simp only [Bool.and_eq_true, decide_eq_true_eq] at h
      obtain ⟨⟨⟨⟨⟨⟨⟨⟨h1, h2⟩, h3⟩, h4⟩, h5⟩, h6⟩, h7⟩, h8⟩, h9⟩ := h
      have ok := blkOk_by h2
      have hk := ok.kind
      have ob := fun s H D cl fp => o.blk s H scope hk D cl fp
      have hi : PI X etg iter (iOf C L W kd (evEs cl C.tb src)) := by
        cases kd with
        | val =>
          obtain ⟨f, q1, q2⟩ := okOne G src W A X o iter h3
          rw [q2]
          exact i_val o.x.K q1
        | _ => 
          dsimp only at h3
          split at h3
          · rename_i args ha
            have r := okEs G src W A X o args h3
            exact iter_ok G o ha r.1 (okEs_star _ _ h3)
          · cases h3
      have key := pe_lc (pos := pos) o.x.calm (by rw [o.x.names]; exact o.x.nd) hi (by rw [o.x.names, o.x.sc]; exact ok) (fun s H D cl fp => okTg (ob s H D cl fp) tg etg h4)
        (tt := tOfB C L W0 (evT cl C.tb ifs)) (fun s H D cl2 fp => okTs G ifs W0 _ _ (ob s H D cl2 fp) eifs h7 h8) (fun s H D cl2 fp => okE G e W0 _ _ (ob s H D cl2 fp) elt h9) (fun x => fold_none h1 _ x)
      rw [own_ix] at key
      refine PE.imp key (lc_read (fun i hi => ?_) (fun i hi => o.mp i ?_))
      · exact List.contains_iff_mem.mp (List.all_eq_true.mp h5 i hi)
      · simpa using List.all_eq_true.mp h6 i hi
    · cases h
theorem okEs (G : GOk C P k cl) : ∀ (c : List CE) (W : WX) (A : Pl) (X : Cx) (o : Ok C L W k A X) (e : List Expr), chkEs P A c e = true → PA X e (tOfL C L W (evEs cl C.tb c)) ∧ ((c = [] → e = []) ∧ ∀ c1 cs, c = c1 :: cs → ∃ e1 es, e = e1 :: es ∧ (e1 :: es).all noStar = true)
  | [], W, A, X, o, e, h => by
    unfold chkEs at h
    cases e with
    | nil => exact ⟨a_nil, fun _ => rfl, fun _ _ q => by cases q⟩
    | cons _ _ => cases h
  | c :: cs, W, A, X, o, e, h => by
    unfold chkEs at h
    cases e with
    | nil => cases h
    | cons e es =>
      simp only [Bool.and_eq_true] at h
      obtain ⟨⟨h1, h2⟩, h3⟩ := h
      obtain ⟨r1, r2⟩ := okEs G cs W A X o es h3
      refine ⟨a_cons (okE G c W A X o e h2) r1 (star_cons h1 _ _), ⟨fun q => (by cases q), fun c1 cs1 q => ⟨e, es, rfl, ?_⟩⟩⟩
      simp only [List.all_cons, h1, Bool.true_and]
      cases cs with
      | nil => rw [r2.1 rfl]; rfl
      | cons c2 cs2 =>
        obtain ⟨e1, es1, rfl, q2⟩ := r2.2 c2 cs2 rfl
        exact q2
theorem okOne (G : GOk C P k cl) : ∀ (c : List CE) (W : WX) (A : Pl) (X : Cx) (o : Ok C L W k A X) (e : Expr), chkEs P A c [e] = true → ∃ f, PE X e (tOf C L W f) ∧ evEs cl C.tb c = fun s => (f s).bind fun r s1 => (Rs.ok ([] : List RV) s1).bind fun rs s2 => .ok (r :: rs) s2
  | [], W, A, X, o, e, h => by unfold chkEs at h; cases h
  | c :: cs, W, A, X, o, e, h => by
    unfold chkEs at h
    simp only [Bool.and_eq_true] at h
    obtain ⟨⟨h1, h2⟩, h3⟩ := h
    cases cs with
    | nil => exact ⟨_, okE G c W A X o e h2, rfl⟩
    | cons _ _ => unfold chkEs at h3; cases h3
theorem okO (G : GOk C P k cl) : ∀ (c : Option CE) (W : WX) (A : Pl) (X : Cx) (o : Ok C L W k A X) (e : Option Expr), chkO P A c e = true → PO X e (tOfO C L W (evO cl C.tb c))
  | none, W, A, X, o, e, h => by
    unfold chkO at h
    cases e with
    | none => exact o_none
    | some _ => cases h
  | some c, W, A, X, o, e, h => by
    unfold chkO at h
    cases e with
    | none => cases h
    | some e => exact o_some (okE G c W A X o e h)
theorem okTs (G : GOk C P k cl) : ∀ (c : List CE) (W : WX) (A : Pl) (X : Cx) (o : Ok C L W k A X) (e : List Expr), e.length ≤ 1 → chkTs P A c e = true → PTs X e (tOfB C L W (evT cl C.tb c))
  | [], W, A, X, o, e, hl, h => by
    unfold chkTs at h
    cases e with
    | nil => exact ⟨fun pins s σ H Q I ⟨z, p, sr, q⟩ => pts_nil.run pins s σ H Q I (q true H z (.refl sr) rfl)⟩
    | cons _ _ => cases h
  | c :: cs, W, A, X, o, e, hl, h => by
    unfold chkTs at h
    cases e with
    | nil => cases h
    | cons e es =>
      simp only [Bool.and_eq_true] at h
      obtain ⟨h1, h2⟩ := h
      cases es with
      | cons _ _ => simp at hl
      | nil =>
        cases cs with
        | cons _ _ => unfold chkTs at h2; cases h2
        | nil =>
          refine pts_one (PT.eq (okT G c W A X o e h1) fun s => ?_)
          show (asB (evE cl C.tb c s)).bind _ = _
          cases asB (evE cl C.tb c s) with
          | ok b s1 => cases b <;> rfl
          | er _ _ => rfl
          | no => rfl
theorem okT (G : GOk C P k cl) : ∀ (c : CE) (W : WX) (A : Pl) (X : Cx) (o : Ok C L W k A X) (e : Expr), chkT P A c e = true → PT X e (tOfB C L W fun s => asB (evE cl C.tb c s))
  | .andT a b, W, A, X, o, e, h => by
    unfold chkT at h
    split at h
    · rename_i x y rest pos
      simp only [Bool.and_eq_true] at h
      obtain ⟨h1, h2⟩ := h
      have hb : PW X (.BoolOp .And (y :: rest) pos) (tOfB C L W fun s => asB (evE cl C.tb b s)) := by
        split at h2
        · exact pw_and1 (okT G b W A X o _ h2)
        · exact PT.pw_bool (okT G b W A X o _ h2)
      refine PW.pt (PW.eq (t_and (okT G a W A X o _ h1) hb) fun s => ?_)
      show asB ((asB (evE cl C.tb a s)).bind _) = _
      rw [asB_bind]
      refine congrArg _ (funext fun d => funext fun s1 => ?_)
      cases d
      · rfl
      · exact asB_id _
    · cases h
  | .orT a b, W, A, X, o, e, h => by
    unfold chkT at h
    split at h
    · rename_i x y rest pos
      simp only [Bool.and_eq_true] at h
      obtain ⟨h1, h2⟩ := h
      have hb : PW X (.BoolOp .Or (y :: rest) pos) (tOfB C L W fun s => asB (evE cl C.tb b s)) := by
        split at h2
        · exact pw_or1 (okT G b W A X o _ h2)
        · exact PT.pw_bool (okT G b W A X o _ h2)
      refine PW.pt (PW.eq (t_or (okT G a W A X o _ h1) hb) fun s => ?_)
      show asB ((asB (evE cl C.tb a s)).bind _) = _
      rw [asB_bind]
      refine congrArg _ (funext fun d => funext fun s1 => ?_)
      cases d
      · exact asB_id _
      · rfl
    · cases h
  | .notT a, W, A, X, o, e, h => by
    unfold chkT at h
    split at h
    · refine PT.eq (t_not (okT G a W A X o _ h)) fun s => ?_
      show asB ((asB (evE cl C.tb a s)).bind _) = _
      rw [asB_bind]
      rfl
    · cases h
  | .tru a, W, A, X, o, e, h => by
    unfold chkT at h
    simp only [Bool.and_eq_true] at h
    obtain ⟨h1, h2⟩ := h
    refine PT.eq (t_val o.x.K (okE G a W A X o e h2) fun w => ?_) fun s => rfl
    cases e <;> first | rfl | (simp [plainT] at h1; done) | skip
    rename_i op _ _
    cases op <;> first | rfl | (simp [plainT] at h1; done)
  | .cmp op a b, W, A, X, o, e, h => by
    unfold chkT at h
    split at h
    · simp only [Bool.and_eq_true, decide_eq_true_eq, Bool.not_eq_true'] at h
      obtain ⟨⟨⟨rfl, h0⟩, h1⟩, h2⟩ := h
      exact t_cmp o.x.K o.x.hu o.x.gv h0 (okE G a W A X o _ h1) (okE G b W A X o _ h2)
    · cases h
  | .chn q p a b c, W, A, X, o, e, h => by
    unfold chkT at h
    split at h
    · simp only [Bool.and_eq_true, decide_eq_true_eq, Bool.not_eq_true'] at h
      obtain ⟨⟨⟨⟨⟨rfl, rfl⟩, h0⟩, h1⟩, h2⟩, h3⟩ := h
      exact t_chn o.x.K o.x.hu o.x.gv h0 (okE G a W A X o _ h1) (okE G b W A X o _ h2) (okE G c W A X o _ h3)
    · cases h
  | .ded, W, A, X, o, e, h => ⟨fun pins s σ H Q I ⟨_, _, _, q⟩ => by dsimp only at q; unfold evE at q; exact q.elim⟩
  | .var _, W, A, X, o, e, h => by unfold chkT at h; cases h
  | .bor _, W, A, X, o, e, h => by unfold chkT at h; cases h
  | .cst _, W, A, X, o, e, h => by unfold chkT at h; cases h
  | .bin _ _ _, W, A, X, o, e, h => by unfold chkT at h; cases h
  | .neg _, W, A, X, o, e, h => by unfold chkT at h; cases h
  | .not _, W, A, X, o, e, h => by unfold chkT at h; cases h
  | .and _ _, W, A, X, o, e, h => by unfold chkT at h; cases h
  | .or _ _, W, A, X, o, e, h => by unfold chkT at h; cases h
  | .ife _ _ _, W, A, X, o, e, h => by unfold chkT at h; cases h
  | .tup _, W, A, X, o, e, h => by unfold chkT at h; cases h
  | .lst _, W, A, X, o, e, h => by unfold chkT at h; cases h
  | .sub _ _, W, A, X, o, e, h => by unfold chkT at h; cases h
  | .slc _ _ _, W, A, X, o, e, h => by unfold chkT at h; cases h
  | .cal _ _, W, A, X, o, e, h => by unfold chkT at h; cases h
  | .bui _ _, W, A, X, o, e, h => by unfold chkT at h; cases h
  | .rev _, W, A, X, o, e, h => by unfold chkT at h; cases h
  | .lc _ _ _ _ _ _, W, A, X, o, e, h => by unfold chkT at h; cases h
end
end
end Mp

/-! MpY: the check of statements. -/
namespace Mp
open PySem PySem.Spec PyProof.Rows L2 RZ

/-- a comprehension stored in a name on its line -/
def lcStore (A : Pl) (x : Str) (px : Pos) : Expr → Bool
  | .ListComp _ _ sc2 p2 => (px.line == p2.line) && locB A.sc x && !(sc2.names.any fun (n, k) => n == x && (k == .local || k == .cell))
  | _ => false
def chkIter (P : Tb) (A : Pl) (k : IK) (src : List CE) (tg iter : Expr) : Bool := match k with
  | .val => chkEs P A src [iter]
  | k => match iterArgs A k tg iter with
    | some args => chkEs P A src args
    | none => false
def nmLoc (A : Pl) : List Nat → List Expr → Bool
  | [], [] => true
  | i :: is, e :: es => (match e with
    | .Name x _ => decide (A.N[i]? = some x) && !A.mp.contains i && locB A.sc x
    | _ => false) && nmLoc A is es
  | _, _ => false
def namesOf : List Expr → List Str
  | [] => []
  | .Name x _ :: es => x :: namesOf es
  | _ :: es => namesOf es
mutual
def chkS (P : Tb) (A : Pl) : CS → Stmt → Bool
  | .asg (.nm i) e, s => match s with
    | .Assign [.Name x px] v _ => storeB A i x && chkE P A e v && (noComp v || lcStore A x px v)
    | _ => false
  | .asg (.tp ts) e, s => match s with
    | .Assign [.Tuple es k p] v _ => chkTgs A ts es && chkE P A e v && noComp v && (noTup v || (match v with
      | .Tuple vs _ _ => (!(es.length == 2 || es.length == 3) || vs.length != es.length) || ((parNames A.sc es).isNone || vs.all (foldedForSure 8))
      | _ => false))
    | _ => false
  | .par is es, s => match s with
    | .Assign [.Tuple ts _ _] (.Tuple vs _ _) _ => nmLoc A is ts && decide is.Nodup && decide (parNames A.sc ts = some (namesOf ts)) && !(!(ts.length == 2 || ts.length == 3) || vs.length != ts.length) && !vs.all (foldedForSure 8) && !vs.all (constantsAlone 8) && chkEs P A es vs
    | _ => false
  | .aug i op e, s => match s with
    | .AugAssign (.Name x _) op' v _ => storeB A i x && decide (op' = op) && (match op with
      | .Add => true
      | .Sub => true
      | _ => false) && chkE P A e v
    | _ => false
  | .set i ix e, s => match s with
    | .Assign [.Subscript (.Name x _) y _] v _ => varB A i x && noSlice y && noComp v && chkE P A ix y && chkE P A e v
    | _ => false
  | .app i e, s => match s with
    | .Expr (.Call (.Attribute (.Name x _) m ap) [v] [] cp) _ => varB A i x && decide (m = ("append" : Str)) && noStar v && (ap.endLine == cp.line) && chkE P A e v
    | _ => false
  | .exp e, s => match s with
    | .Expr v _ => noComp v && chkE P A e v
    | _ => false
  | .ret e, s => match s with
    | .Return (some v) _ => chkE P A e v
    | _ => false
  | .retN, s => match s with
    | .Return none _ => true
    | _ => false
  | .ite t a b, s => match s with
    | .If c x y _ => chkT P A t c && chkSs P A a x && chkSs P A b y
    | _ => false
  | .whl t b, s => match s with
    | .While c x [] _ => chkT P A t c && chkSs P A b x
    | _ => false
  | .fro tg k src b, s => match s with
    | .For etg iter body [] _ => noSet iter && chkIter P A k src etg iter && chkTg A tg etg && chkSs P A b body
    | _ => false
  | .brk, s => match s with
    | .Break _ => true
    | _ => false
  | .cnt, s => match s with
    | .Continue _ => true
    | _ => false
  | .pas, s => match s with
    | .Pass _ => true
    | .Expr (.Constant (.str _) _ _) _ => true
    | _ => false
  | .ded, _ => true
def chkSs (P : Tb) (A : Pl) : List CS → List Stmt → Bool
  | [], ss => match ss with
    | [] => true
    | _ => false
  | c :: cs, ss => match ss with
    | s :: ss => chkS P A c s && chkSs P A cs ss
    | [] => false
end
section
variable {C : Ctx} {L : Act} {k : Nat} {P : Tb} {cl : Cl} {W : WX} {A : Pl} {X : Cx}
theorem chkIter_ok (G : GOk C P k cl) (o : Ok C L W k A X) {kd : IK} {src : List CE} {tg iter : Expr} (h : chkIter P A kd src tg iter = true) : PI X tg iter (iOf C L W kd (evEs cl C.tb src)) := by
  unfold chkIter at h
  cases kd with
  | val =>
    obtain ⟨f, q1, q2⟩ := okOne G src W A X o iter h
    rw [q2]
    exact i_val o.x.K q1
  | _ =>
    dsimp only at h
    split at h
    · rename_i args ha
      exact iter_ok G o ha (okEs G src W A X o args h).1 (okEs_star _ _ h)
    · cases h
theorem sole_none {e t : Expr} (h : noComp e = true) (l : Nat) (env : Env) : swapsWithSole [t] e l env = pure false := swaps_none h _ _ _
theorem asg_ix {o y : Expr} {p : Pos} {env : Env} (h : noSlice y = true) (v : Value) : assign (.Subscript o y p) env v = (do
      let ov ← holding [v] (eval o env)
      let iv ← holding [v, ov] (eval y env)
      standAt p
      holding [v, ov, iv] (setItem ov iv v)
      release [v, ov, iv] []) := by
  cases y <;> first | rfl | (simp [noSlice] at h; done)
theorem lc_set (G : GOk C P k cl) (o : Ok C L W k A X) {e : CE} {v : Expr} {i : Nat} {x : Str} {px pos : Pos} (h : chkE P A e v = true) (hl : lcStore A x px v = true) (h1 : storeB A i x = true) :
    PS X (.Assign [.Name x px] v pos) (tAsg (tOf C L W (evE cl C.tb e)) (gName i)) := by
  unfold lcStore at hl
  split at hl
  · rename_i elt0 gens0 scope0 p0
    simp only [Bool.and_eq_true, Bool.not_eq_true'] at hl
    obtain ⟨⟨l1, l2⟩, l3⟩ := hl
    obtain ⟨q1, q2, q3, q4, q5⟩ := store_ok' o h1
    have hloc : X.env.scope.names.lookup x = some .local := by
      rw [o.x.sc]
      unfold locB at l2
      split at l2
      · assumption
      · cases l2
    cases e <;> first
      | (simp [chkE, cstB] at h; done)
      | exact ⟨fun pins s σ H Q I ⟨_, _, _, q⟩ => by unfold evE at q; exact q.elim⟩
      | skip
    rename_i own tg kd src ifs e
    unfold chkE at h
    split at h
    · rename_i elt etg iter eifs scope pos2 heq
      cases heq
      simp only [Bool.and_eq_true, decide_eq_true_eq] at h
      obtain ⟨⟨⟨⟨⟨⟨⟨⟨h1', h2⟩, h3⟩, h4⟩, h5⟩, h6⟩, h7⟩, h8⟩, h9⟩ := h
      have ok := blkOk_by h2
      have hk := ok.kind
      have ob := fun s H D cl fp => o.blk s H scope0 hk D cl fp
      have hi : PI X etg iter (iOf C L W kd (evEs cl C.tb src)) := by
        cases kd with
        | val =>
          obtain ⟨f, q1, q2⟩ := okOne G src W A X o iter h3
          rw [q2]
          exact i_val o.x.K q1
        | _ =>
          dsimp only at h3
          split at h3
          · rename_i args ha
            exact iter_ok G o ha (okEs G src W A X o args h3).1 (okEs_star _ _ h3)
          · cases h3
      have key := ps_setLc (spos := pos) (py := px) o.x.calm q1 q2 hloc (sw_true (by rw [o.x.sc]; exact o.kind) hloc l1 l3) hi (by rw [o.x.names, o.x.sc]; exact ok) (fun s H D cl fp => okTg (ob s H D cl fp) tg etg h4)
        (tt := tOfB C L W0 (evT cl C.tb ifs)) (fun s H D cl2 fp => okTs G ifs W0 _ _ (ob s H D cl2 fp) eifs h7 h8) (fun s H D cl2 fp => okE G e W0 _ _ (ob s H D cl2 fp) elt0 h9) (fun x => fold_none h1' _ x)
      rw [own_ix] at key
      exact PS.imp key fun D σ H q => lc_read (fun i hi => List.contains_iff_mem.mp (List.all_eq_true.mp h5 i hi)) (fun i hi => o.mp i (by simpa using List.all_eq_true.mp h6 i hi)) σ H _ q
    · cases h
  · cases hl
theorem nmLoc_ok' (o : Ok C L W k A X) : ∀ (is : List Nat) (ts : List Expr), nmLoc A is ts = true → ts.length = is.length ∧ ∀ i ∈ is, i ∉ L.mp.map (·.1)
  | [], [], _ => ⟨rfl, fun _ h => by cases h⟩
  | [], _ :: _, h => by simp [nmLoc] at h
  | _ :: _, [], h => by simp [nmLoc] at h
  | i :: is, e :: es, h => by
    simp only [nmLoc, Bool.and_eq_true] at h
    obtain ⟨q1, q2⟩ := nmLoc_ok' o is es h.2
    refine ⟨by simp [q1], fun j hj => ?_⟩
    rcases List.mem_cons.mp hj with rfl | hj
    · have h1 := h.1
      split at h1
      · simp only [Bool.and_eq_true, Bool.not_eq_true'] at h1
        exact o.mp j h1.1.2
      · cases h1
    · exact q2 j hj
theorem nm_inv {i : Nat} {is : List Nat} {ts : List Expr} (o : Ok C L W k A X) (h : nmLoc A (i :: is) ts = true) : ∃ x p es, ts = .Name x p :: es ∧ X.N[i]? = some x ∧ X.env.scope.names.lookup x = some .local ∧ i ∉ L.mp.map (·.1) ∧ nmLoc A is es = true := by
  cases ts with
  | nil => simp [nmLoc] at h
  | cons e es =>
    simp only [nmLoc, Bool.and_eq_true] at h
    obtain ⟨h1, h2⟩ := h
    split at h1
    · rename_i x p
      simp only [Bool.and_eq_true, Bool.not_eq_true', decide_eq_true_eq] at h1
      refine ⟨x, p, es, rfl, by rw [o.x.names]; exact h1.1.1, ?_, o.mp i h1.1.2, h2⟩
      rw [o.x.sc]
      have := h1.2
      unfold locB at this
      split at this
      · assumption
      · cases this
    · cases h1
theorem nm_nil {ts : List Expr} (h : nmLoc A [] ts = true) : ts = [] := by
  cases ts with
  | nil => rfl
  | cons _ _ => simp [nmLoc] at h
theorem par_ok (G : GOk C P k cl) (o : Ok C L W k A X) {is : List Nat} {es : List CE} {ts vs : List Expr} {k1 k2 : Nat} {p1 p2 pos : Pos} (h1 : nmLoc A is ts = true) (h2 : is.Nodup) (h3 : parNames A.sc ts = some (namesOf ts))
    (h4 : (!(ts.length == 2 || ts.length == 3) || vs.length != ts.length) = false) (h5 : vs.all (foldedForSure 8) = false) (h6 : vs.all (constantsAlone 8) = false) (h7 : chkEs P A es vs = true) :
    PS X (.Assign [.Tuple ts k1 p1] (.Tuple vs k2 p2) pos) (tOfS C L W (exS cl C.tb (.par is es))) := by
  have hw := stores_par (env := X.env) (k := k1) (k2 := k2) (pos := p1) (p2 := p2) h4 (by rw [o.x.sc]; exact o.kind) (okEs_star _ _ h7) (by rw [o.x.sc]; exact h3) h5 h6
  have ha := (okEs G es W A X o vs h7).1
  have hN : X.N.Nodup := by rw [o.x.names]; exact o.x.nd
  simp only [Bool.or_eq_false_iff, Bool.not_eq_false', Bool.or_eq_true, beq_iff_eq, bne_eq_false_iff_eq] at h4
  obtain ⟨hl, hv⟩ := h4
  obtain ⟨hl1, hm⟩ := nmLoc_ok' o is ts h1
  match is, h1, h2, hl1 with
  | [], h1, _, hl1 => obtain rfl := nm_nil h1; simp at hl
  | [i], h1, _, hl1 => simp only [List.length_cons, List.length_nil] at hl1; omega
  | [i, j], h1, h2, hl1 =>
    obtain ⟨x, px, ts, rfl, a1, a2, a3, h1⟩ := nm_inv o h1
    obtain ⟨y, py, ts, rfl, b1, b2, b3, h1⟩ := nm_inv o h1
    obtain rfl := nm_nil h1
    match vs, hv with
    | [a, b], _ =>
      have hij : i ≠ j := fun e => by subst e; simp at h2
      exact PS.imp (ps_par o.x.calm hN a1 b1 hij a2 b2 ha hw) (rd_par hm)
  | [i, j, l], h1, h2, hl1 =>
    obtain ⟨x, px, ts, rfl, a1, a2, a3, h1⟩ := nm_inv o h1
    obtain ⟨y, py, ts, rfl, b1, b2, b3, h1⟩ := nm_inv o h1
    obtain ⟨w, pw, ts, rfl, c1, c2, c3, h1⟩ := nm_inv o h1
    obtain rfl := nm_nil h1
    match vs, hv with
    | [a, b, c], _ =>
      simp only [List.nodup_cons, List.mem_cons, List.not_mem_nil, or_false, not_or, not_false_eq_true, List.nodup_nil, and_true] at h2
      exact PS.imp (ps_par3 o.x.calm hN a1 b1 c1 h2.1.1 h2.1.2 h2.2 a2 b2 c2 ha hw) (rd_par3 hm)
  | _ :: _ :: _ :: _ :: _, _, _, hl1 => simp only [List.length_cons] at hl1; omega
theorem ps_nx {st : Stmt} (h : PS X st tNext) : PS X st (tOfS C L W fun s => .nx s) := PS.imp h fun D σ H ⟨z, p, s, q⟩ => q σ H z (.refl s)
theorem loc_of {x : Str} (o : Ok C L W k A X) (h : locB A.sc x = true) : X.env.scope.names.lookup x = some .local := by
  rw [o.x.sc]
  unfold locB at h
  split at h
  · assumption
  · cases h
mutual
theorem okS (G : GOk C P k cl) : ∀ (c : CS) (W : WX) (A : Pl) (X : Cx) (o : Ok C L W k A X) (s : Stmt), chkS P A c s = true → PS X s (tOfS C L W (exS cl C.tb c))
  | .asg (.nm i) e, W, A, X, o, s, h => by
    unfold chkS at h
    split at h
    · rename_i x px v pos
      simp only [Bool.and_eq_true, Bool.or_eq_true] at h
      obtain ⟨⟨h1, h2⟩, h3⟩ := h
      obtain ⟨q1, q2, q3, q4, q5⟩ := store_ok' o h1
      have he := okE G e W A X o v h2
      refine s_nm ?_ q5
      rcases h3 with h3 | h3
      · exact ps_set q1 q2 q3 he (swaps_none h3 _ _ _) q4
      · exact lc_set G o h2 h3 h1
    · cases h
  | .asg (.tp ts) e, W, A, X, o, s, h => by
    unfold chkS at h
    split at h
    · rename_i es kk p v pos
      simp only [Bool.and_eq_true, Bool.or_eq_true] at h
      obtain ⟨⟨⟨h1, h2⟩, h3⟩, h4⟩ := h
      obtain ⟨q1, q2, q3⟩ := okTgs o ts es h1
      refine s_tp (okE G e W A X o v h2) (g_tp o.x.K o.x.calm q1 (by rw [asE_len, q2]) (asE_none _ _ q3)) (sole_none h3 _ _) ?_ rfl
      rcases h4 with h4 | h4
      · exact stores_plain h4
      · split at h4
        · rcases Bool.or_eq_true_iff.mp h4 with h4 | h4
          · exact stores_long h4
          · exact stores_other (by rw [o.x.sc]; exact Bool.or_eq_true_iff.mp h4)
        · cases h4
    · cases h
  | .par is es, W, A, X, o, s, h => by
    unfold chkS at h
    split at h
    · simp only [Bool.and_eq_true, decide_eq_true_eq, Bool.not_eq_true'] at h
      obtain ⟨⟨⟨⟨⟨⟨h1, h2⟩, h3⟩, h4⟩, h5⟩, h6⟩, h7⟩ := h
      exact par_ok G o h1 h2 h3 h4 h5 h6 h7
    · cases h
  | .aug i op e, W, A, X, o, s, h => by
    unfold chkS at h
    split at h
    · rename_i x px op' v pos
      simp only [Bool.and_eq_true, decide_eq_true_eq] at h
      obtain ⟨⟨⟨h1, rfl⟩, h2⟩, h3⟩ := h
      obtain ⟨q1, q2, q3, q4, q5⟩ := store_ok' o h1
      have he := okE G e W A X o v h3
      split at h2
      · exact PS.imp (ps_aug q1 q2 q3 he ip_add q4) (rd_aug q5 (.inl ⟨rfl, rfl⟩))
      · exact PS.imp (ps_aug q1 q2 q3 he ip_sub q4) (rd_aug q5 (.inr ⟨rfl, rfl⟩))
      · cases h2
    · cases h
  | .set i ix e, W, A, X, o, s, h => by
    unfold chkS at h
    split at h
    · rename_i x px y p2 v pos
      simp only [Bool.and_eq_true] at h
      obtain ⟨⟨⟨⟨h1, h2⟩, h3⟩, h4⟩, h5⟩ := h
      refine PS.imp (ps_asg (okE G e W A X o v h5) (pg_sub (var_ok o h1) (okE G ix W A X o y h4) set_list (asg_ix h2)) (sole_none h3 _ _) stores_sub rfl) rd_set
    · cases h
  | .app i e, W, A, X, o, s, h => by
    unfold chkS at h
    split at h
    · rename_i x px m ap v cp pos
      simp only [Bool.and_eq_true, decide_eq_true_eq] at h
      obtain ⟨⟨⟨⟨h1, rfl⟩, h2⟩, h3⟩, h4⟩ := h
      refine PS.imp (ps_expr (pe_bm PySem.F.plainAttrs_list PySem.F.slot_list_append PySem.F.type_list_append mt_append (var_ok o h1) (pa_cons (okE G e W A X o v h4) pa_nil (star_cons h2 _ _)) rfl ?_ h3 (star_cons h2 _ _) rfl)) (by rw [o.x.K]; exact rd_app)
      rw [star_cons h2]; rfl
    · cases h
  | .exp e, W, A, X, o, s, h => by
    unfold chkS at h
    split at h
    · simp only [Bool.and_eq_true] at h
      exact PS.imp (ps_expr (okE G e W A X o _ h.2) (swaps_none h.1 _ _ _)) rd_exp
    · cases h
  | .ret e, W, A, X, o, s, h => by
    unfold chkS at h
    split at h
    · exact PS.imp (ps_ret (okE G e W A X o _ h)) rd_ret
    · cases h
  | .retN, W, A, X, o, s, h => by
    unfold chkS at h
    split at h
    · exact PS.imp ps_retN fun D σ H ⟨z, p, sr, q⟩ => q .non σ H z (.refl sr) (.val .non)
    · cases h
  | .ite t a b, W, A, X, o, s, h => by
    unfold chkS at h
    split at h
    · simp only [Bool.and_eq_true] at h
      obtain ⟨⟨h1, h2⟩, h3⟩ := h
      exact PS.imp (ps_if (okT G t W A X o _ h1) (okSs G a W A X o _ h2) (okSs G b W A X o _ h3)) rd_ite
    · cases h
  | .whl t b, W, A, X, o, s, h => by
    unfold chkS at h
    split at h
    · simp only [Bool.and_eq_true] at h
      exact PS.imp (ps_while o.x.po (okT G t W A X o _ h.1) (okSs G b W A X o _ h.2)) rd_whl
    · cases h
  | .fro tg kd src b, W, A, X, o, s, h => by
    unfold chkS at h
    split at h
    · simp only [Bool.and_eq_true] at h
      obtain ⟨⟨⟨h1, h2⟩, h3⟩, h4⟩ := h
      exact PS.imp (ps_for o.x.po o.x.calm (chkIter_ok G o h2) (okTg o tg _ h3) (okSs G b W A X o _ h4) (fun x => fold_none h1 _ x)) rd_fro
    · cases h
  | .brk, W, A, X, o, s, h => by
    unfold chkS at h
    split at h
    · exact PS.imp ps_break fun D σ H ⟨z, p, sr, q⟩ => q σ H z (.refl sr)
    · cases h
  | .cnt, W, A, X, o, s, h => by
    unfold chkS at h
    split at h
    · exact PS.imp ps_continue fun D σ H ⟨z, p, sr, q⟩ => q σ H z (.refl sr)
    · cases h
  | .pas, W, A, X, o, s, h => by
    unfold chkS at h
    split at h
    · exact ps_nx ps_pass
    · exact ps_nx ps_doc
    · cases h
  | .ded, W, A, X, o, s, h => ⟨fun pins s σ H Q I ⟨_, _, _, q⟩ => by unfold exS at q; exact q.elim⟩
theorem okSs (G : GOk C P k cl) : ∀ (c : List CS) (W : WX) (A : Pl) (X : Cx) (o : Ok C L W k A X) (s : List Stmt), chkSs P A c s = true → PSs X s (tOfS C L W (exSs cl C.tb c))
  | [], W, A, X, o, s, h => by
    unfold chkSs at h
    cases s with
    | nil => exact ss_nil
    | cons _ _ => cases h
  | c :: cs, W, A, X, o, s, h => by
    unfold chkSs at h
    cases s with
    | nil => cases h
    | cons s ss =>
      simp only [Bool.and_eq_true] at h
      exact ss_cons (okS G c W A X o s h.1) (okSs G cs W A X o ss h.2)
end
end
end Mp

/-! MpZ: a def by its checked body. -/
namespace Mp
open PySem PySem.Spec PyProof.Rows L2 RZ

section
variable {C : Ctx} {z z' : As} {H H' : Hp} {as s : Sg} {vs : List V} {σ' : L2.St}
theorem outs_len {mp : List Nat} {s : Sg} : ∀ {k : Nat} {as : Sg}, (outs mp s k as).length = as.length
  | _, [] => rfl
  | k, .pv x :: as => by unfold outs; rw [List.length_cons, List.length_cons, outs_len]
  | k, .own _ _ :: as => by unfold outs; rw [List.length_cons, List.length_cons, outs_len]
  | k, .un :: as => by unfold outs; rw [List.length_cons, List.length_cons, outs_len]
theorem outs_at {mp : List Nat} {s : Sg} : ∀ {k : Nat} {as : Sg} {i : Nat} {sl : Slot}, (outs mp s k as)[i]? = some sl →
    (∃ x, as[i]? = some (.pv x) ∧ sl = .pv x) ∨ sl = .un ∨ (∃ t x, as[i]? = some (.own t x) ∧ mp.contains (k + i) = true ∧ s[k + i]? = some sl)
  | _, [], _, _, e => by simp [outs] at e
  | k, a :: as, 0, sl, e => by
    cases a with
    | pv x => simp [outs] at e; exact .inl ⟨x, rfl, e.symm⟩
    | un => simp [outs] at e; exact .inr (.inl e.symm)
    | own t x =>
      simp [outs] at e
      split at e
      · rename_i hm
        cases q : s[k]? with
        | none => rw [q] at e; exact .inr (.inl e.symm)
        | some b =>
          rw [q] at e
          simp at e
          subst e
          exact .inr (.inr ⟨t, x, rfl, by simpa using hm, by simpa using q⟩)
      · exact .inr (.inl e.symm)
  | k, a :: as, i + 1, sl, e => by
    have e2 : (outs mp s (k + 1) as)[i]? = some sl := by cases a <;> simpa [outs] using e
    have h := outs_at e2
    have hk : k + 1 + i = k + (i + 1) := by omega
    rw [hk] at h
    simpa using h
/-- the lent places -/
def lent (mp : List Nat) (vs : List V) : List (Nat × Addr) := mp.filterMap fun i => match vs[i]? with
  | some (V.ref a) => some (i, a)
  | _ => none
theorem lent_mem {mp : List Nat} {i : Nat} {a : Addr} (h1 : mp.contains i = true) (h2 : vs[i]? = some (.ref a)) : (i, a) ∈ lent mp vs := by
  unfold lent
  rw [List.mem_filterMap]
  exact ⟨i, List.contains_iff_mem.mp h1, by rw [h2]⟩
theorem lent_of {mp : List Nat} {q : Nat × Addr} (h : q ∈ lent mp vs) : mp.contains q.1 = true ∧ vs[q.1]? = some (.ref q.2) := by
  unfold lent at h
  rw [List.mem_filterMap] at h
  obtain ⟨i, h1, h2⟩ := h
  split at h2
  · rename_i a ha
    cases h2
    exact ⟨List.contains_iff_mem.mpr h1, ha⟩
  · cases h2
theorem start_at {N : List Str} {i : Nat} {v : V} : (L2.start N vs)[i]? = some (some v) ↔ vs[i]? = some v := by
  unfold L2.start
  by_cases hi : i < vs.length
  · rw [List.getElem?_append_left (by simpa using hi), List.getElem?_map]
    cases vs[i]? <;> simp
  · rw [List.getElem?_append_right (by simpa using hi), List.getElem?_replicate, List.getElem?_eq_none (by omega)]
    split <;> simp
theorem un_at {n i : Nat} {sl : Slot} (e : (as ++ List.replicate n Slot.un)[i]? = some sl) (h : sl ≠ .un) : as[i]? = some sl := by
  by_cases hi : i < as.length
  · rwa [List.getElem?_append_left hi] at e
  · rw [List.getElem?_append_right (by omega), List.getElem?_replicate] at e
    split at e
    · cases e; exact absurd rfl h
    · cases e
/-- the body's state at its entry -/
theorem SRel.entry {N : List Str} {mp : List Nat} (s : SRel C ⟨[], H⟩ z H as (vs.map some)) (hn : as.length ≤ N.length) : SRel C ⟨lent mp vs, H⟩ z H (as ++ List.replicate (N.length - as.length) .un) (L2.start N vs) := by
  have l1 : as.length = vs.length := by simpa using s.len
  have up : ∀ {i : Nat} {v : V}, (vs.map some)[i]? = some (some v) → (L2.start N vs)[i]? = some (some v) := fun {i v} e => start_at.mpr (map_some_at.mp e)
  have dn : ∀ {i : Nat} {v : V}, (L2.start N vs)[i]? = some (some v) → (vs.map some)[i]? = some (some v) := fun {i v} e => map_some_at.mpr (start_at.mp e)
  refine ⟨by unfold L2.start; simp; omega, s.zt, s.h0, fun i x e => ?_, fun i t x e => ?_, fun i j t u x y a e1 e2 e3 e4 => ?_, fun q hq => ?_⟩
  · obtain ⟨v, h1, h2⟩ := s.pv i x (un_at e (by simp))
    exact ⟨v, up h1, h2⟩
  · obtain ⟨a, o, h1, h2⟩ := s.ow i t x (un_at e (by simp))
    exact ⟨a, o, up h1, h2⟩
  · exact s.dj i j t u x y a (un_at e1 (by simp)) (un_at e2 (by simp)) (dn e3) (dn e4)
  · exact start_at.mpr (lent_of hq).2
theorem own_entry {N : List Str} {n : Nat} {a : Addr} : Own (as ++ List.replicate n .un) (L2.start N vs) a → Own as (vs.map some) a := fun ⟨i, t, x, e1, e2⟩ => ⟨i, t, x, un_at e1 (by simp), map_some_at.mpr (start_at.mp e2)⟩
/-- .. and back -/
theorem Go.leave {N : List Str} {mp : List Nat} {n : Nat} (s0 : SRel C ⟨[], H⟩ z H as (vs.map some)) (g : Go C ⟨lent mp vs, H⟩ z H (as ++ List.replicate n .un) (L2.start N vs) z' H' s σ') :
    Go C ⟨[], H⟩ z H as (vs.map some) z' H' (outs mp s 0 as) (vs.map some) ∧ ∀ a, Own (outs mp s 0 as) (vs.map some) a → Own s σ' a := by
  have hz : ∀ a, Own (as ++ List.replicate n .un) (L2.start N vs) a → Own as (vs.map some) a := fun a => own_entry
  have st : Stp (Own as (vs.map some)) z H z' H' := ⟨fun a o e m => g.stp.keep a o e fun q => m (hz a q), g.stp.there, fun a e m => g.stp.priv a e fun q => m (hz a q), g.stp.new⟩
  have lk : ∀ {i : Nat} {a : Addr} {t : Bool} {x : PV}, as[i]? = some (.own t x) → mp.contains i = true → (vs.map some)[i]? = some (some (.ref a)) → σ'[i]? = some (some (.ref a)) := fun {i a t x} e1 e2 e3 =>
    g.rel.mp (i, a) (lent_mem e2 (map_some_at.mp e3))
  have ownUp : ∀ a, Own (outs mp s 0 as) (vs.map some) a → Own s σ' a := fun a ⟨i, t, x, e1, e2⟩ => by
    rcases outs_at e1 with ⟨y, _, h⟩ | h | ⟨u, y, h1, h2, h3⟩
    · cases h
    · cases h
    · rw [Nat.zero_add] at h2 h3
      exact ⟨i, t, x, h3, lk h1 h2 e2⟩
  refine ⟨⟨⟨by rw [outs_len]; exact s0.len, g.rel.zt, g.rel.h0, fun i x e => ?_, fun i t x e => ?_, fun i j t u x y a e1 e2 e3 e4 => ?_, fun q hq => by cases hq⟩, st, fun a h => ?_⟩, ownUp⟩
  · rcases outs_at e with ⟨y, h1, h2⟩ | h | ⟨u, y, h1, h2, h3⟩
    · cases h2
      obtain ⟨v, q1, q2⟩ := s0.pv i x h1
      exact ⟨v, q1, q2.step st s0.mok⟩
    · cases h
    · rw [Nat.zero_add] at h2 h3
      obtain ⟨a, o, q1, _⟩ := s0.ow i u y h1
      obtain ⟨v, r1, r2⟩ := g.rel.pv i x h3
      rw [lk h1 h2 q1] at r1; cases r1
      exact ⟨_, q1, r2⟩
  · rcases outs_at e with ⟨y, h1, h2⟩ | h | ⟨u, y, h1, h2, h3⟩
    · cases h2
    · cases h
    · rw [Nat.zero_add] at h2 h3
      obtain ⟨a, o, q1, _⟩ := s0.ow i u y h1
      obtain ⟨b, o2, r1, r2⟩ := g.rel.ow i t x h3
      rw [lk h1 h2 q1] at r1; cases r1
      exact ⟨_, o2, q1, r2⟩
  · rcases outs_at e1 with ⟨_, _, h⟩ | h | ⟨_, _, h1, h2, h3⟩
    · cases h
    · cases h
    · rcases outs_at e2 with ⟨_, _, h⟩ | h | ⟨_, _, k1, k2, k3⟩
      · cases h
      · cases h
      · rw [Nat.zero_add] at h2 h3 k2 k3
        exact g.rel.dj i j t u x y a h3 k3 (lk h1 h2 e3) (lk k1 k2 e4)
  · rcases g.own a (ownUp a h) with q | q
    · exact .inl (hz a q)
    · exact .inr q
end
end Mp
namespace Mp
open PySem PySem.Spec PyProof.Rows L2 RZ
section
variable {C : Ctx} {k : Nat} {P : Tb}
/-- the check of one def of the table: its text's parameters, body, scope -/
def chkD (P : Tb) (d : Fd) (body : List Stmt) (scope : Scope) : Bool := chkSs P ⟨scope, d.N, d.mp, true⟩ d.body body && decide (d.np ≤ d.N.length)
theorem body_ok {cl : Cl} {d : Fd} {f : Addr} {qual : Str} {body : List Stmt} {scope : Scope} {cdv : Value} (G : GOk C P k cl) (gv : ∀ g v, C.gv g = some v → ∃ f, v = .ref f) (S : FnScope d.N (d.N.take d.np) scope) (hc : chkD P d body scope = true)
    {A : Around} {outer : List Env} {s : Shared} {H : Hp} {vs : List V} {Q : VK} {E : XK} (hr : Room k (A.deeper (envOfC qual scope s.heap.objs.size f cdv))) (hg : A.guards = some [])
    {z : As} {as : Sg} (l1 : as.length = d.np) (l2 : vs.length = d.np) (sr : SRel C ⟨[], H⟩ z H as (vs.map some))
    (q : match (match exSs cl C.tb d.body (as ++ List.replicate (d.N.length - d.np) .un) with
        | .nx s => Rs.ok (RV.val .non) (outs d.mp s 0 as)
        | .rt r s => if isBor r then .no else .ok r (outs d.mp s 0 as)
        | .er x s => .er x (outs d.mp s 0 as)
        | _ => .no) with
      | .ok r as' => ∀ v H' z', Go C ⟨[], H⟩ z H as (vs.map some) z' H' as' (vs.map some) → RRep C z' H H' as' (vs.map some) r v → Q v H'
      | .er x as' => ∀ cls dd H' z', Go C ⟨[], H⟩ z H as (vs.map some) z' H' as' (vs.map some) → XRep C z' H' x cls dd → E cls dd H'
      | .no => False) :
    ∃ t, PSs (cxOf (CX C.P C.w) C.P C.w C.K C.mg C.base d.N qual scope f cdv A outer s H E) body t ∧ t { nx := fun _ H' => Q .non H', rt := Q } (L2.start d.N vs) H := by
  unfold chkD at hc
  simp only [Bool.and_eq_true, decide_eq_true_eq] at hc
  obtain ⟨hb, hn⟩ := hc
  have tk : Takes (cxOf (CX C.P C.w) C.P C.w C.K C.mg C.base d.N qual scope f cdv A outer s H E) (fun cls dd _ H' => E cls dd H') := takes_of rfl rfl rfl rfl
  have po : PassesOwn (model C.P C.w) (A.deeper (envOfC qual scope s.heap.objs.size f cdv)) (envOfC qual scope s.heap.objs.size f cdv) (cxOf (CX C.P C.w) C.P C.w C.K C.mg C.base d.N qual scope f cdv A outer s H E).xe := passes_of (X := cxOf (CX C.P C.w) C.P C.w C.K C.mg C.base d.N qual scope f cdv A outer s H E) rfl
  have o : Ok C ⟨lent d.mp vs, H⟩ (fun cls dd _ H' => E cls dd H') k ⟨scope, d.N, d.mp, true⟩ (cxOf (CX C.P C.w) C.P C.w C.K C.mg C.base d.N qual scope f cdv A outer s H E) :=
    ⟨⟨rfl, rfl, rfl, rfl, rfl, rfl, S.nd, rfl, rfl, hr, by
      show (A.deeper (envOfC qual scope s.heap.objs.size f cdv)).guards = some []
      first | exact hg | (simp [Around.deeper]; exact hg), tk, po, gv⟩, S.kind, fun _ _ => rfl, fun i hi hm => by
      obtain ⟨p, hp, rfl⟩ := List.mem_map.mp hm
      rw [(lent_of hp).1] at hi; cases hi⟩
  refine ⟨_, okSs G d.body _ _ _ o body hb, z, as ++ List.replicate (d.N.length - d.np) .un, ?_, ?_⟩
  · rw [← l1]
    exact sr.entry (by omega)
  · cases e : exSs cl C.tb d.body (as ++ List.replicate (d.N.length - d.np) .un) with
    | nx s' =>
      rw [e] at q
      intro σ' H' z' g
      exact q .non H' z' (g.leave sr).1 (.val .non)
    | rt r s' =>
      rw [e] at q
      intro v σ' H' z' g rr
      dsimp only at q
      cases hbr : isBor r with
      | true => rw [hbr] at q; exact q.elim
      | false =>
        rw [hbr] at q
        obtain ⟨g2, ow⟩ := g.leave sr
        refine q v H' z' g2 ?_
        cases rr with
        | val h => exact .val h
        | frs q1 q2 q3 q4 q5 q6 => exact .frs q1 q2 (fun h => q3 (ow _ h)) q4 q5 q6
        | bor h => cases hbr
    | bk s' => rw [e] at q; exact q.elim
    | ct s' => rw [e] at q; exact q.elim
    | er x s' =>
      rw [e] at q
      intro cls dd σ' H' z' g xr
      exact q cls dd H' z' (g.leave sr).1 xr
    | no => rw [e] at q; exact q.elim
end
end Mp
namespace Mp
open PySem PySem.Spec PyProof.Rows L2 RZ
section
variable {C : Ctx} {k : Nat} {P : Tb}
/-- THE STEP: a def whose body checks, one level up -/
theorem fnG {g : Nat} {d : Fd} {f : Addr} {fd : FuncData} {x qual : Str} {params : Arguments} {body : List Stmt} {scope : Scope} {dvs : List V} (G : GOk C P k (runF C.tb k)) (gv : ∀ g v, C.gv g = some v → ∃ f, v = .ref f) (hd : C.tb g = some d)
    (F : FunD C.K x qual params body scope dvs [] f fd) (S : FnScope d.N (d.N.take d.np) scope) (hc : chkD P d body scope = true) : FnG C (k + 1) f fd (d.N.take d.np) (spOf C (runF C.tb (k + 1)) g d) := by
  have hnp : (d.N.take d.np).length = d.np := by
    unfold chkD at hc
    simp only [Bool.and_eq_true, decide_eq_true_eq] at hc
    rw [List.length_take]; omega
  obtain ⟨oc, od, dV, kV, doc, pm, an, cdv, ct, osl, rfl, lk, hcd, _, _⟩ := F.ex
  refine ⟨fun vs H Q E ⟨_, _, _, h, _⟩ => by rw [hnp]; exact h, fun A outer s H args us vs Q E hr hg e0 hb r hsp => ?_⟩
  obtain ⟨z, as, l1, l2, sr, q⟩ := hsp
  have hl : vs.length = (d.N.take d.np).length := by rw [hnp]; exact l2
  have inK : C.K.In s.heap := e0.mod.kin.keeps fun b o e => (e0.bs b o e).1
  have kinds : ∀ y ∈ (d.N.take d.np).zip us, scope.names.lookup y.1 = some .local ∨ (scope.names.lookup y.1 = some .cell ∧ ((cellsFrom (s.heap.objs.size + 1) scope.names []).lookup y.1).isSome = true) := by
    intro y hy
    rcases S.par y.1 (List.of_mem_zip (a := y.1) (b := y.2) hy).1 with h | h
    · exact .inl h
    · exact .inr ⟨h, PySem.W.cellsFrom_some _ _ _ (.inl h)⟩
  refine codeAny_call_function hr.depth (inK _ _ lk) rfl S.co S.gen rfl (PySem.W.codeRec_of inK hcd) (hb _ _ _ _ ?_)
  refine wpAny_newFunctionEnv_cells S.kind kinds fun env he s1 ic => ?_
  subst he
  refine ⟨e0.mod.nolimit.keeps (fun b o e => ic.toInCall.keep b o ((e0.bs b o e).1)), codeAny_func ?_⟩
  have q' : match (match exSs (runF C.tb k) C.tb d.body (as ++ List.replicate (d.N.length - d.np) .un) with
        | .nx s => Rs.ok (RV.val .non) (outs d.mp s 0 as)
        | .rt r s => if isBor r then .no else .ok r (outs d.mp s 0 as)
        | .er x s => .er x (outs d.mp s 0 as)
        | _ => .no) with
      | .ok r as' => ∀ v H' z', Go C ⟨[], H⟩ z H as (vs.map some) z' H' as' (vs.map some) → RRep C z' H H' as' (vs.map some) r v → Q v H'
      | .er x as' => ∀ cls dd H' z', Go C ⟨[], H⟩ z H as (vs.map some) z' H' as' (vs.map some) → XRep C z' H' x cls dd → E cls dd H'
      | .no => False := by
    unfold runF at q
    rw [hd] at q
    dsimp only at q
    rw [if_pos l1] at q
    exact q
  obtain ⟨t, ht, hq⟩ := body_ok (qual := qual) (f := f) (cdv := cdv) G gv S hc (hr.deeper _) hg l1 l2 sr q'
  refine wpAny_mono (ht.run [] s1 (L2.start d.N vs) H _ (inv_start S hr.hd e0 hl r ic) hq) (fun fl s' hs => ?_) fun e s' hs => hs
  cases fl with
  | next =>
    obtain ⟨σ', H', J, w⟩ := hs
    exact ⟨V.non, H', J.os, J.bare, J.base, J.hok, rfl, w⟩
  | ret u =>
    obtain ⟨v, σ', H', J, rv, w⟩ := hs
    exact ⟨v, H', J.os, J.bare, J.base, J.hok, rv, w⟩
  | brk =>
    obtain ⟨_, _, _, w⟩ := hs
    exact w.elim
  | cont =>
    obtain ⟨_, _, _, w⟩ := hs
    exact w.elim
/-- how a def of the table stands behind the top -/
structure DefAt (C : Ctx) (P : Tb) (d : Fd) : Prop where
  ex : ∃ (f : Addr) (fd : FuncData) (qual : Str) (params : Arguments) (body : List Stmt) (scope : Scope) (dvs : List V), C.mg d.name = some (.ref f) ∧ FunD C.K d.name qual params body scope dvs [] f fd ∧ FnScope d.N (d.N.take d.np) scope ∧ chkD P d body scope = true ∧
    ∀ m, m ≤ d.np → d.np ≤ m + d.dfl.length → ∃ (dvs : List V) (ds : List Value), dvs.length + m = d.np ∧ (∀ z H, RepL C z H (d.dfl.drop (m + d.dfl.length - d.np)) dvs) ∧ Vals dvs ds ∧ L2.Binds C.K fd (d.N.take d.np) ds
theorem chkD_np {d : Fd} {body : List Stmt} {scope : Scope} (hc : chkD P d body scope = true) : (d.N.take d.np).length = d.np := by
  unfold chkD at hc
  simp only [Bool.and_eq_true, decide_eq_true_eq] at hc
  rw [List.length_take]; omega
/-- all defs, at every level -/
theorem defs_ok (gv : ∀ g v, C.gv g = some v → ∃ f, v = .ref f) (G0 : ∀ k cl, (∀ g d, P.tb g = some d → DefOk C k cl g d) → GOk C P k cl) (tb : C.tb = P.tb) (D : ∀ g d, P.tb g = some d → DefAt C P d) : ∀ k g d, P.tb g = some d → DefOk C k (runF C.tb k) g d
  | 0, g, d, hd => by
    obtain ⟨f, fd, qual, params, body, scope, dvs, h1, h2, h3, h4, h5⟩ := (D g d hd).ex
    exact ⟨f, fd, h1, h2.kp, ⟨fun vs H Q E ⟨_, _, _, h, _⟩ => by rw [chkD_np h4]; exact h, fun A outer s H args us vs Q E hr hg e0 hb r hsp => by
      obtain ⟨z, as, _, _, _, q⟩ := hsp
      exact q.elim⟩, chkD_np h4, h5⟩
  | k + 1, g, d, hd => by
    obtain ⟨f, fd, qual, params, body, scope, dvs, h1, h2, h3, h4, h5⟩ := (D g d hd).ex
    exact ⟨f, fd, h1, h2.kp, fnG (G0 _ _ (defs_ok gv G0 tb D k)) gv (by rw [tb]; exact hd) h2 h3 h4, chkD_np h4, h5⟩
end
end Mp

/-! MpX: the law's call. -/
namespace Mp
open PySem PySem.Spec PyProof.Rows L2 RZ

section
variable {C : Ctx} {k : Nat} {fa a : Addr} {fd : FuncData} {x : Str} {sp : Sp} {s : Shared} {vs : List Value} {ns : List Int}
/-- the script's object -/
abbrev scr (vs : List Value) : Obj := { cls := .type "list", data := .seq vs.toArray }
/-- what is tracked: at most the script -/
def scrHp (a : Addr) (vs : List Value) (ns : List Int) (t : Bool) : Hp := fun b => if b = a ∧ t = true then some (.frz (scr vs) (.lst (ns.map V.int))) else none
theorem scrHp_some {b : Addr} {u : HO} {t : Bool} (e : scrHp a vs ns t b = some u) : b = a ∧ t = true ∧ u = .frz (scr vs) (.lst (ns.map V.int)) := by
  unfold scrHp at e
  split at e
  · rename_i h; cases e; exact ⟨h.1, h.2, rfl⟩
  · cases e
theorem scrHp_none {b : Addr} {t : Bool} (h : b = a → t = false) : scrHp a vs ns t b = none := by
  unfold scrHp
  refine if_neg fun q => ?_
  rw [h q.1] at q
  cases q.2
/-- the heap that is fixed: all but the script -/
abbrev scrBase (s : Shared) (a : Addr) (vs : List Value) (ns : List Int) (t : Bool) : Heap := hidT s.heap (scrHp a vs ns t)
theorem scr_base {b : Addr} {o : Obj} {t : Bool} (e : s.heap.get? b = some o) (h : b = a → t = false) : (scrBase s a vs ns t).get? b = some o := hidT_get e (scrHp_none h)
theorem scr_ns {b : Addr} {m : Str → Option Value} {t : Bool} (ha : s.heap.get? a = some (scr vs)) (h : s.heap.Ns b m) : (scrBase s a vs ns t).Ns b m := by
  obtain ⟨o, es, ep, e, d, r⟩ := h
  refine ⟨o, es, ep, scr_base e fun q => ?_, d, r⟩
  subst q
  rw [ha] at e
  cases e
  cases d
theorem law_end {mb : Str → Option Value} {t : Bool} (KX : C.K.In s.heap) (hns : s.heap.Ns mainGlobals C.mg) (hb : s.heap.Ns builtinsNs mb) (hbb : ∀ x : Str, x ≠ "__name__" → mb x = bootBuiltins x) (hlim : s.heap.NoLimit) (hg : s.gens = #[])
    (ha : s.heap.get? a = some (scr vs)) (hi : IntsAre vs ns) (hl : ns.length ≤ sizeLine) (hr : Room k callerA) (ht : t = true → C.K.lookup a = none) (hba : C.base = scrBase s a vs ns t)
    (F : FnG C k fa fd [x] sp) (bind : BindsTo s fd ⟨[.ref a], []⟩ [(x, .ref a)]) (hsp : sp [.ref a] (scrHp a vs ns t) (fun v _ => v = .bl true) fun _ _ _ => False) :
    codeAny (model C.P C.w) callerA (.call (.ref fa) ⟨[.ref a], []⟩) (fun r s' => r = .ok (.ret (.bool true)) ∧ OldK s.heap s'.heap ∧ s'.os = s.os ∧ AllBare s'.gens) s := by
  have inB : C.K.In C.base := by
    rw [hba]
    intro b o e
    refine scr_base (KX b o e) fun q => ?_
    subst q
    cases t with
    | false => rfl
    | true => rw [ht rfl] at e; cases e
  have md : Mod C.K C.mg C.base := ⟨inB, by rw [hba]; exact scr_ns ha hns, ⟨mb, by rw [hba]; exact scr_ns ha hb, hbb⟩, by
    obtain ⟨mc, h1, h2⟩ := hlim
    exact ⟨mc, by rw [hba]; exact scr_ns ha h1, h2⟩⟩
  have ok : HOk C.P C.w (scrHp a vs ns t) s.heap := by
    intro b u e
    obtain ⟨rfl, _, rfl⟩ := scrHp_some e
    exact ⟨ha, by rw [List.length_map]; exact hl, vs, _, vals_ints hi, ha⟩
  have env : Env0 C.P C.w C.K C.mg C.base callerA [] s (scrHp a vs ns t) :=
    ⟨rfl, md, fun b o e => by rw [hba] at e; exact of_hidT e, by rw [hba]; exact Nat.le_of_eq (hidT_size _ _), trivial, fun b hb => (by cases hb), ok, .of_eq hg⟩
  refine codeAny_mono (F.run callerA [] s _ ⟨[.ref a], []⟩ [.ref a] [.ref a] _ _ hr rfl env bind (.cons rfl .nil) hsp) fun r s' h => ?_
  cases r with
  | error e =>
    obtain ⟨_, _, _, _, _, _, _, _, _, _, _, _, w⟩ := h
    exact w.elim
  | ok fl =>
    cases fl with
    | ret u =>
      obtain ⟨v, H', h1, h2, h3, h4, h5, rfl⟩ := h
      obtain rfl : u = Value.bool true := h5
      refine ⟨rfl, OldK.of_keep fun b o e => ?_, h1, h2⟩
      cases q : scrHp a vs ns t b with
      | none => exact h3.keep b o e q (fun z => by cases z) fun z => by cases z
      | some u =>
        obtain ⟨rfl, _, rfl⟩ := scrHp_some q
        have q2 := (h4 b _ (h3.frzs b _ _ q)).1
        rw [ha] at e
        cases e
        exact q2
    | next => exact (show False from h).elim
    | brk => exact (show False from h).elim
    | cont => exact (show False from h).elim
/-- THE END of a law's proof -/
theorem walk_end {l : PySem.W.OpenLaw} {n : Nat} {q : Program} {loose : List Str} {XP : (Str → Option Value) → Heap → Prop} {YP : World → Heap → Prop} {d : DefRec} (hn : l.most = some n) (hn2 : n ≤ sizeLine) (hdf : d.params.defaults = []) (hr : Room k callerA)
    (F : ∀ (w : World) (mg : Str → Option Value) (fa : Addr) (h : Heap), YP w h → h.Ns mainGlobals mg → mg d.name = some (.ref fa) → ∃ (K : PySem.W.Frag), K.In h ∧
      ∀ base : Heap, ∃ (C : Ctx) (sp : Sp) (fd : FuncData), (∀ (s : Shared) (u : Value), K.In s.heap → BindsTo s fd ⟨[u], []⟩ [(x, u)]) ∧ C.P = l.prog ∧ C.w = w ∧ C.K = K ∧ C.mg = mg ∧ C.base = base ∧ FnG C k fa fd [x] sp ∧
        ∀ (H : Hp) (a : Addr) (ns : List Int), ns.length ≤ n → (∀ k ∈ ns, Builtin.Int.intBits k ≤ 1048576) → FrzL K H a (ns.map V.int) → sp [.ref a] H (fun v _ => v = .bl true) fun _ _ _ => False) :
    PySem.W.WalkO q loose XP YP l.row.toRowW d [] (fun f vs => PySem.call f vs) := by
  refine Att.attach_callB hn hdf fun w s₀ s₁ mg mb fa o pm cd doc a vs ns G Y ho hd hcd hmg hobj hints hlen hbits hg => ?_
  obtain ⟨K, KX, F⟩ := F w mg fa _ Y G.T.g hmg
  cases hk : K.lookup a with
  | none =>
    obtain ⟨C, sp, fd, bind, hP, rfl, rfl, rfl, hb, FG, hsp⟩ := F (scrBase s₁ a vs ns true)
    rw [← hP]
    exact law_end (t := true) KX G.T.g G.T.b G.T.builtins G.T.nolimit hg hobj hints (Nat.le_trans hlen hn2) hr (fun _ => hk) hb FG (bind s₁ (.ref a) KX) (hsp _ a ns hlen hbits (.inl ⟨scr vs, by unfold scrHp; rw [if_pos ⟨rfl, rfl⟩]⟩))
  | some u =>
    obtain ⟨C, sp, fd, bind, hP, rfl, rfl, rfl, hb, FG, hsp⟩ := F (scrBase s₁ a vs ns false)
    rw [← hP]
    have e := KX a u hk
    rw [hobj] at e
    cases e
    exact law_end (t := false) KX G.T.g G.T.b G.T.builtins G.T.nolimit hg hobj hints (Nat.le_trans hlen hn2) hr (fun h => by cases h) hb FG (bind s₁ (.ref a) KX) (hsp _ a ns hlen hbits (.inr ⟨_, vs.toArray, _, hk, rfl, rfl, rfl, by
      rw [List.size_toArray, hints.length]; exact Nat.le_trans hlen hn2, by simpa using vals_ints hints⟩))
end
end Mp

/-! MpHd: from a table of rows to the promises of all defs. -/
namespace Mp
open PySem PySem.Spec PyProof.Rows L2 RZ

/-! ### constants -/
mutual
def repB (K : PySem.W.Frag) : PV → Value → Bool
  | .non, u => (match u with
    | .none => true
    | _ => false)
  | .bl b, u => (match u with
    | .bool c => b == c
    | _ => false)
  | .int i, u => (match u with
    | .int j _ => decide (i = j)
    | _ => false)
  | .str x, u => (match u with
    | .str y _ => decide (x = y)
    | _ => false)
  | .tup xs, u => (match u with
    | .ref a => (match K.lookup a with
      | some ⟨.type c, _, .seq its _, _⟩ => decide (c = "tuple") && (decide (its.size ≤ sizeLine) && repLB K xs its.toList)
      | _ => false)
    | _ => false)
  | .frz xs, u => (match u with
    | .ref a => (match K.lookup a with
      | some ⟨.type c, none, .seq its _, _⟩ => decide (c = "list") && (decide (its.size ≤ sizeLine) && repLB K xs its.toList)
      | _ => false)
    | _ => false)
  | _, _ => false
def repLB (K : PySem.W.Frag) : List PV → List Value → Bool
  | [], us => us.isEmpty
  | x :: xs, us => (match us with
    | u :: us => repB K x u && repLB K xs us
    | [] => false)
end
mutual
theorem repB_ok {K : PySem.W.Frag} : ∀ (x : PV) (u : Value), repB K x u = true → ∃ v, RelV v u ∧ ∀ (C : Ctx), C.K = K → ∀ z H, Rep C z H x v
  | .non, u, h => by
    unfold repB at h
    split at h
    · exact ⟨.non, rfl, fun C _ z H => .non⟩
    · cases h
  | .bl b, u, h => by
    unfold repB at h
    split at h
    · obtain rfl := eq_of_beq h; exact ⟨.bl b, rfl, fun C _ z H => .bl b⟩
    · cases h
  | .int i, u, h => by
    unfold repB at h
    split at h
    · rename_i j t; obtain rfl := of_decide_eq_true h; exact ⟨.int i, ⟨t, rfl⟩, fun C _ z H => .int i⟩
    · cases h
  | .str i, u, h => by
    unfold repB at h
    split at h
    · rename_i j t; obtain rfl := of_decide_eq_true h; exact ⟨.str i, ⟨t, rfl⟩, fun C _ z H => .str i⟩
    · cases h
  | .tup xs, u, h => by
    unfold repB at h
    split at h
    · rename_i a
      split at h
      · rename_i c od its n sl q
        simp only [Bool.and_eq_true, decide_eq_true_eq] at h
        obtain ⟨rfl, h2, h3⟩ := h
        obtain ⟨vs, r, rp⟩ := repLB_ok xs _ h3
        exact ⟨.ref a, rfl, fun C hK z H => .tup (.inr ⟨_, its, n, by rw [hK]; exact q, rfl, rfl, h2, r⟩) (rp C hK z H)⟩
      · cases h
    · cases h
  | .frz xs, u, h => by
    unfold repB at h
    split at h
    · rename_i a
      split at h
      · rename_i c its n sl q
        simp only [Bool.and_eq_true, decide_eq_true_eq] at h
        obtain ⟨rfl, h2, h3⟩ := h
        obtain ⟨vs, r, rp⟩ := repLB_ok xs _ h3
        exact ⟨.ref a, rfl, fun C hK z H => .frz (.inr ⟨_, its, n, by rw [hK]; exact q, rfl, rfl, rfl, h2, r⟩) (rp C hK z H)⟩
      · cases h
    · cases h
  | .lst xs, u, h => by simp [repB] at h
  | .ty xs, u, h => by simp [repB] at h
  | .fn xs, u, h => by simp [repB] at h
theorem repLB_ok {K : PySem.W.Frag} : ∀ (x : List PV) (u : List Value), repLB K x u = true → ∃ v, Vals v u ∧ ∀ (C : Ctx), C.K = K → ∀ z H, RepL C z H x v
  | [], u, h => by
    cases u with
    | nil => exact ⟨[], .nil, fun C _ z H => .nil⟩
    | cons _ _ => simp [repLB] at h
  | x :: xs, u, h => by
    cases u with
    | nil => simp [repLB] at h
    | cons u us =>
      simp only [repLB, Bool.and_eq_true] at h
      obtain ⟨v, r, rp⟩ := repB_ok x u h.1
      obtain ⟨vs, r2, rp2⟩ := repLB_ok xs us h.2
      exact ⟨v :: vs, .cons r r2, fun C hK z H => .cons (rp C hK z H) (rp2 C hK z H)⟩
end
/-! ### rows -/
/-- a def of the top: its place, its core, its defaults as the layer has them -/
structure Row where
  i : Nat
  d : Fd
  dv : List He.Dv
def dvB (K : PySem.W.Frag) : He.Dv → PV → Bool
  | .non, .non => true
  | .bl b, .bl c => b == c
  | .int i, .int j => decide (i = j)
  | .str x, .str y => decide (x = y)
  | .glo x, v => repB K v (.ref (He.ga K x))
  | _, _ => false
def dvLB (K : PySem.W.Frag) : List He.Dv → List PV → Bool
  | [], [] => true
  | x :: xs, y :: ys => dvB K x y && dvLB K xs ys
  | _, _ => false
theorem dvB_ok {K : PySem.W.Frag} {x : He.Dv} {v : PV} (h : dvB K x v = true) : ∀ (C : Ctx), C.K = K → ∀ z H, Rep C z H v (x.v K) := by
  cases x with
  | glo x =>
    obtain ⟨w, r, rp⟩ := repB_ok v (.ref (He.ga K x)) h
    have e : w = .ref (He.ga K x) := by cases w <;> first | (cases r; done) | (obtain ⟨_, e⟩ := r; cases e; done) | (cases r; rfl)
    subst e
    exact rp
  | _ => cases v <;> first | (simp [dvB] at h; done) | (simp only [dvB, beq_iff_eq, decide_eq_true_eq] at h; subst h; intro C _ z H; first | exact .bl _ | exact .int _ | exact .str _) | (intro C _ z H; exact .non)
theorem dvLB_ok {K : PySem.W.Frag} : ∀ {x : List He.Dv} {v : List PV}, dvLB K x v = true → ∀ (C : Ctx), C.K = K → ∀ z H, RepL C z H v (x.map (He.Dv.v K))
  | [], [], _ => fun C _ z H => .nil
  | [], _ :: _, h => by simp [dvLB] at h
  | _ :: _, [], h => by simp [dvLB] at h
  | x :: xs, v :: vs, h => by
    simp only [dvLB, Bool.and_eq_true] at h
    exact fun C hK z H => .cons (dvB_ok h.1 C hK z H) (dvLB_ok h.2 C hK z H)
def Row.df (P : Program) (r : Row) : DefRec := HandSHeadRun.topDef P r.i
def Row.dd (P : Program) (r : Row) : He.DefD := ⟨((r.df P).name, none), (r.df P).name, (r.df P).name, (r.df P).params, (r.df P).body, (r.df P).scope, r.dv, []⟩
def tbOf (rs : List Row) : Nat → Option Fd := fun g => (rs[g]?).map (·.d)
def rowC (P : Program) (T : Tb) (r : Row) : Bool := decide ((r.df P).name = r.d.name) && chkD T r.d (r.df P).body (r.df P).scope && C8.scC r.d.N (r.d.N.take r.d.np) (r.df P).scope && decide (r.dv.length = r.d.dfl.length)
/-- how arguments go to the parameters -/
def BindOk (params : Arguments) (ps : List Str) (q : Nat) : Prop :=
  if q = 0 then ∀ (x qual : Str) (body : List Stmt) (scope : Scope) (kV doc pm : Value) (an : Option Addr) (cdv ct : Value) (us : List Value), us.length = ps.length → bindArgs (PySem.W.fnOf x qual params body scope .none kV doc pm an cdv ct) ⟨us, []⟩ = pure (ps.zip us)
  else ∀ m, m ≤ ps.length → ps.length ≤ m + q → ∀ (x qual : Str) (body : List Stmt) (scope : Scope) (T : Addr) (kV doc pm : Value) (an : Option Addr) (cdv ct : Value) (us its : List Value), us.length = m → its.length = q →
      ∃ k, bindArgs (PySem.W.fnOf x qual params body scope (.ref T) kV doc pm an cdv ct) ⟨us, []⟩ = seqItems? (.ref T) >>= k ∧ k (some its.toArray) = pure (ps.zip (us ++ its.drop (m + q - ps.length)))
def AllBind (P : Program) : List Row → Prop
  | [] => True
  | r :: rs => BindOk (r.df P).params (r.d.N.take r.d.np) r.d.dfl.length ∧ AllBind P rs
theorem AllBind.mem {P : Program} : ∀ {rs : List Row}, AllBind P rs → ∀ r ∈ rs, BindOk (r.df P).params (r.d.N.take r.d.np) r.d.dfl.length
  | _ :: _, h, r, hr => by
    rcases List.mem_cons.mp hr with rfl | hr
    · exact h.1
    · exact AllBind.mem h.2 r hr
/-! ### the module's facts -/
def nilNames : List Str := ["range", "zip", "enumerate", "len", "abs", "int", "max", "min", "tuple", "list", "all", "any", "repr", "sum", "isinstance", "bool", "str", "dict"]
def facts (P : Program) (rs : List Row) : List He.Fa := nilNames.map He.Fa.free ++ rs.map fun r => He.Fa.glo (r.df P).name
def exB (T : Tb) (rs : List Row) (K : PySem.W.Frag) : Bool := (T.cs.all fun q => (match PySem.W.nsIn K mainGlobals q.1 with
    | some (some u) => repB K q.2 u
    | _ => false)) && rs.all fun r => dvLB K r.dv r.d.dfl
section
variable {P : Program} {T : Tb} {rs : List Row} {K : PySem.W.Frag} {w : World} {mg : Str → Option Value} {h : Heap}
theorem lookup_some {α : Type} {x : Str} {v : α} : ∀ {l : List (Str × α)}, l.lookup x = some v → (x, v) ∈ l
  | (y, u) :: l, e => by
    rw [List.lookup_cons] at e
    cases q : (x == y) with
    | true => rw [q] at e; cases e; rw [beq_iff_eq.mp q]; exact List.mem_cons_self
    | false => rw [q] at e; exact List.mem_cons_of_mem _ (lookup_some e)
/-- the context of a law over base -/
abbrev ctx (P : Program) (T : Tb) (w : World) (K : PySem.W.Frag) (mg : Str → Option Value) (base : Heap) : Ctx := ⟨P, w, K, mg, base, T.tb, fun _ => none, fun _ => none⟩
theorem gok {base : Heap} (KX : K.In h) (G : h.Ns mainGlobals mg) (c : He.SaysX (facts P rs) (rs.map (Row.dd P)) [] [] (exB T rs) w h K) (k : Nat) (cl : Cl) (D : ∀ g d, T.tb g = some d → DefOk (ctx P T w K mg base) k cl g d) : GOk (ctx P T w K mg base) T k cl := by
  have fr : ∀ x ∈ nilNames, mg x = none := fun x hx => He.free_ok KX G (c.t.d.facts (f := .free x) (List.mem_append_left _ (List.mem_map.mpr ⟨x, hx, rfl⟩)))
  have ex := (He.ba (show ((T.cs.all fun q => (match PySem.W.nsIn K mainGlobals q.1 with
    | some (some u) => repB K q.2 u
    | _ => false)) && rs.all fun r => dvLB K r.dv r.d.dfl) = true from c.more)).1
  refine ⟨rfl, fun x v hv => ?_, fun n hn => ?_, fun b => ?_, fr _ (by decide +kernel), fr _ (by decide +kernel), fr _ (by decide +kernel), D⟩
  · have h1 := List.all_eq_true.mp ex (x, v) (lookup_some hv)
    dsimp only at h1
    split at h1
    · rename_i u hu
      obtain ⟨w', r, rp⟩ := repB_ok v u h1
      exact ⟨u, w', PySem.W.mg_of KX G hu, r, rp _ rfl⟩
    · cases h1
  · simp only [tyNames, List.mem_cons, List.not_mem_nil, or_false] at hn
    rcases hn with rfl | rfl | rfl | rfl | rfl | rfl <;> exact fr _ (by decide +kernel)
  · cases b <;> exact fr _ (by decide +kernel)
theorem Vals.drop' {xs : List V} {us : List Value} (h : Vals xs us) (n : Nat) : Vals (xs.drop n) (us.drop n) := h.drop n
theorem def_at {base : Heap} (KX : K.In h) (G : h.Ns mainGlobals mg) (c : He.SaysX (facts P rs) (rs.map (Row.dd P)) [] [] (exB T rs) w h K) {r : Row} (hr : r ∈ rs) (hc : rowC P T r = true) (hb : BindOk (r.df P).params (r.d.N.take r.d.np) r.d.dfl.length) :
    DefAt (ctx P T w K mg base) T r.d := by
  unfold rowC at hc
  simp only [Bool.and_eq_true, decide_eq_true_eq] at hc
  obtain ⟨⟨⟨h1, h2⟩, h3⟩, h4⟩ := hc
  obtain ⟨fd, F⟩ := c.t.d.defs (d := r.dd P) (List.mem_map.mpr ⟨r, hr, rfl⟩)
  have gl := He.glo_ok KX G (c.t.d.facts (f := .glo (r.df P).name) (List.mem_append_right _ (List.mem_map.mpr ⟨r, hr, rfl⟩)))
  have ex := (He.ba (show ((T.cs.all fun q => (match PySem.W.nsIn K mainGlobals q.1 with
    | some (some u) => repB K q.2 u
    | _ => false)) && rs.all fun r => dvLB K r.dv r.d.dfl) = true from c.more)).2
  have dl := dvLB_ok (List.all_eq_true.mp ex r hr)
  have np := chkD_np h2
  refine ⟨He.ga K (r.df P).name, fd, (r.df P).name, (r.df P).params, (r.df P).body, (r.df P).scope, r.dv.map (He.Dv.v K), by rw [← h1]; exact gl, by rw [← h1]; exact F, C8.fnScope_by h3, h2, fun m hm1 hm2 => ?_⟩
  have F' : FunD K (r.df P).name (r.df P).name (r.df P).params (r.df P).body (r.df P).scope (r.dv.map (He.Dv.v K)) [] (He.ga K (r.df P).name) fd := F
  unfold BindOk at hb
  split at hb
  · rename_i q0
    have e0 : r.dv = [] := List.length_eq_zero_iff.mp (by omega)
    have e1 : r.d.dfl = [] := List.length_eq_zero_iff.mp (by omega)
    rw [e0] at F'
    refine ⟨[], [], by simp; omega, fun z H => by rw [e1]; simp; exact .nil, .nil, FunD.bindsN F' fun kV doc pm an cdv ct us hl => hb _ _ _ _ _ _ _ _ _ _ us hl⟩
  · rename_i q0
    have e0 : (r.dv.map (He.Dv.v K)).length = r.d.dfl.length := by rw [List.length_map]; exact h4
    obtain ⟨ds, v, b⟩ := FunD.binds1 (ps := r.d.N.take r.d.np) F' m (m + r.d.dfl.length - r.d.np) (fun e => by rw [e] at e0; simp at e0; omega) (by rw [e0, np]; omega) (fun T kV doc pm an cdv ct us its l1 l2 => by
      have := hb m (by omega) (by omega) (r.df P).name (r.df P).name (r.df P).body (r.df P).scope T kV doc pm an cdv ct us its l1 (by rw [l2, e0])
      rw [np] at this
      exact this)
    exact ⟨_, ds, by rw [List.length_drop, e0]; omega, fun z H => (dl (ctx P _ w K mg base) rfl z H).drop _, v, b⟩
theorem defs_all {base : Heap} (KX : K.In h) (G : h.Ns mainGlobals mg) (ht : T.tb = tbOf rs) (c : He.SaysX (facts P rs) (rs.map (Row.dd P)) [] [] (exB T rs) w h K) (hc : rs.all (rowC P T) = true) (hb : AllBind P rs) :
    ∀ k g d, T.tb g = some d → DefOk (ctx P T w K mg base) k (runF T.tb k) g d := by
  refine defs_ok (C := ctx P T w K mg base) (fun g v e => by cases e) (fun k cl D => gok KX G c k cl D) rfl fun g d hd => ?_
  rw [ht] at hd
  unfold tbOf at hd
  obtain ⟨r, h1, rfl⟩ := Option.map_eq_some_iff.mp hd
  have hr := List.mem_of_getElem? h1
  exact def_at KX G c hr (List.all_eq_true.mp hc r hr) (hb.mem r hr)
end
end Mp
namespace Mp
open PySem PySem.Spec PyProof.Rows L2 RZ
theorem script_rel {C : Ctx} {H : Hp} {a : Addr} {ns : List Int} (h : FrzL C.K H a (ns.map V.int)) : SRel C ⟨[], H⟩ (fun _ => False) H [.pv (.frz (ns.map PV.int))] ([V.ref a].map some) := by
  have rp : ∀ ns : List Int, RepL C (fun _ => False) H (ns.map PV.int) (ns.map V.int) := fun ns => by
    induction ns with
    | nil => exact .nil
    | cons i r ih => exact .cons (.int i) ih
  refine ⟨rfl, fun a q => q.elim, fun a e => e, fun i x e => ?_, fun i t x e => ?_, fun i j t u x y a e => ?_, fun q hq => by cases hq⟩
  · cases i with
    | zero => simp at e; subst e; exact ⟨.ref a, rfl, .frz h (rp ns)⟩
    | succ i => simp at e
  · cases i with
    | zero => simp at e
    | succ i => simp at e
  · cases i with
    | zero => simp at e
    | succ i => simp at e
theorem law_walk {l : PySem.W.OpenLaw} {q : Program} {loose : List Str} {XP : (Str → Option Value) → Heap → Prop} {T : Tb} {rs : List Row} {gL k n : Nat} {rL : Row} (hn : l.most = some 63) (ht : T.tb = tbOf rs) (hc : rs.all (rowC l.prog T) = true) (hb : AllBind l.prog rs) (hL : rs[gL]? = some rL)
    (h1 : rL.d.np = 1) (h2 : rL.d.N.take 1 = [("script" : Str)]) (h3 : rL.d.dfl = []) (hdf : (rL.df l.prog).params.defaults = []) (hr : Room k callerA)
    (law : ∀ ns : List Int, ns.length ≤ 63 → (∀ k ∈ ns, Builtin.Int.intBits k ≤ 1048576) → ∃ s, runF T.tb k gL [.pv (.frz (ns.map PV.int))] = .ok (.val (.bl true)) s) :
    PySem.W.WalkO q loose XP (He.hookX n (facts l.prog rs) (rs.map (Row.dd l.prog)) [] [] (exB T rs)).says l.row.toRowW (rL.df l.prog) [] (fun f vs => PySem.call f vs) := by
  refine walk_end (x := "script") (k := k) hn (by decide) hdf hr fun w mg fa h Y G hmg => ?_
  obtain ⟨K, KX, c⟩ := Y
  have hd : T.tb gL = some rL.d := by rw [ht]; unfold tbOf; rw [hL]; rfl
  have hmem := List.mem_of_getElem? hL
  have gl := He.glo_ok KX G (c.t.d.facts (f := .glo (rL.df l.prog).name) (List.mem_append_right _ (List.mem_map.mpr ⟨rL, hmem, rfl⟩)))
  rw [hmg] at gl
  cases gl
  have hrow := List.all_eq_true.mp hc rL hmem
  unfold rowC at hrow
  simp only [Bool.and_eq_true, decide_eq_true_eq] at hrow
  have D := fun base => defs_all (base := base) (w := w) KX G ht c hc hb k gL rL.d hd
  refine ⟨K, KX, fun base => ?_⟩
  obtain ⟨f, fd, e1, _, FG, _, e2⟩ := (D base).ex
  have e1' : mg rL.d.name = some (.ref f) := e1
  rw [← hrow.1.1.1, hmg] at e1'
  cases e1'
  rw [h1, h2] at FG
  refine ⟨ctx l.prog T w K mg base, spOf (ctx l.prog T w K mg base) (runF T.tb k) gL rL.d, fd, fun s u hin => ?_, rfl, rfl, rfl, rfl, rfl, FG, fun H a ns hlen hbits hz => ?_⟩
  · obtain ⟨dvs, ds, q1, _, q2, q3⟩ := e2 1 (by omega) (by omega)
    rw [h1] at q1
    have q4 : dvs = [] := List.length_eq_zero_iff.mp (by omega)
    subst q4
    cases q2
    rw [h1, h2] at q3
    exact q3 s [u] hin rfl
  · obtain ⟨s, e⟩ := law ns hlen hbits
    refine ⟨fun _ => False, _, by rw [h1]; rfl, by rw [h1]; rfl, script_rel hz, ?_⟩
    rw [e]
    intro v H' z' g rr
    cases rr with
    | val h => cases h; rfl
end Mp

/-! MpEv: reckoning with the interpreter. -/
namespace Mp
open PySem

@[simp] theorem bind_ok {α β : Type} (a : α) (s : Sg) (f : α → Sg → Rs β) : (Rs.ok a s).bind f = f a s := rfl
@[simp] theorem toSs_ok {α : Type} (a : α) (s : Sg) (f : α → Sg → Ss) : toSs (.ok a s) f = f a s := rfl
@[simp] theorem asB_okb (b : Bool) (s : Sg) : asB (.ok (.val (.bl b)) s) = .ok b s := rfl
theorem asB_okv (v : RV) (s : Sg) : asB (.ok v s) = (match deref s v with
  | some x => match truV x with
    | some b => .ok b s
    | none => .no
  | none => .no) := rfl
def Ss.seq (r : Ss) (f : Sg → Ss) : Ss := match r with
  | .nx s => f s
  | r => r
@[simp] theorem seq_nx (s : Sg) (f : Sg → Ss) : (Ss.nx s).seq f = f s := rfl
@[simp] theorem seq_rt (r : RV) (s : Sg) (f : Sg → Ss) : (Ss.rt r s).seq f = .rt r s := rfl
@[simp] theorem seq_ct (s : Sg) (f : Sg → Ss) : (Ss.ct s).seq f = .ct s := rfl
@[simp] theorem seq_bk (s : Sg) (f : Sg → Ss) : (Ss.bk s).seq f = .bk s := rfl
/-! what waits for a result -/
def kBin2 (op : Operator) (x : RV) (r : Rs (RV)) : Rs RV := r.bind fun y s => match deref s x, deref s y with
    | some u, some w => ret1 s (binV op u w)
    | _, _ => .no
@[simp] theorem kBin2_ok (op : Operator) (x : RV) (y : RV) (s : Sg) : kBin2 op x (.ok y s) = (match deref s x, deref s y with
    | some u, some w => ret1 s (binV op u w)
    | _, _ => .no) := rfl
def kBin1 (cl : Cl) (tb : Nat → Option Fd) (op : Operator) (b : CE) (r : Rs (RV)) : Rs RV := r.bind fun x s => kBin2 op x (evE cl tb b s)
@[simp] theorem kBin1_ok (cl : Cl) (tb : Nat → Option Fd) (op : Operator) (b : CE) (x : RV) (s : Sg) : kBin1 cl tb op b (.ok x s) = (kBin2 op x (evE cl tb b s)) := rfl
def kNeg  (r : Rs (RV)) : Rs RV := r.bind fun x s => match x.int? with
    | some i => .ok (.val (.int (-i))) s
    | none => .no
@[simp] theorem kNeg_ok  (x : RV) (s : Sg) : kNeg  (.ok x s) = (match x.int? with
    | some i => .ok (.val (.int (-i))) s
    | none => .no) := rfl
def kNot  (r : Rs (Bool)) : Rs RV := r.bind fun b s => .ok (.val (.bl !b)) s
@[simp] theorem kNot_ok  (b : Bool) (s : Sg) : kNot  (.ok b s) = (.ok (.val (.bl !b)) s) := rfl
def kTt  (r : Rs (Bool)) : Rs RV := r.bind fun b s => .ok (.val (.bl b)) s
@[simp] theorem kTt_ok  (b : Bool) (s : Sg) : kTt  (.ok b s) = (.ok (.val (.bl b)) s) := rfl
def kAnd (cl : Cl) (tb : Nat → Option Fd) (b : CE) (r : Rs (RV)) : Rs RV := r.bind fun x s => match x.bl? with
    | some true => evE cl tb b s
    | some false => .ok (.val (.bl false)) s
    | none => .no
@[simp] theorem kAnd_ok (cl : Cl) (tb : Nat → Option Fd) (b : CE) (x : RV) (s : Sg) : kAnd cl tb b (.ok x s) = (match x.bl? with
    | some true => evE cl tb b s
    | some false => .ok (.val (.bl false)) s
    | none => .no) := rfl
def kOr (cl : Cl) (tb : Nat → Option Fd) (b : CE) (r : Rs (RV)) : Rs RV := r.bind fun x s => match x.bl? with
    | some false => evE cl tb b s
    | some true => .ok (.val (.bl true)) s
    | none => .no
@[simp] theorem kOr_ok (cl : Cl) (tb : Nat → Option Fd) (b : CE) (x : RV) (s : Sg) : kOr cl tb b (.ok x s) = (match x.bl? with
    | some false => evE cl tb b s
    | some true => .ok (.val (.bl true)) s
    | none => .no) := rfl
def kAndT (cl : Cl) (tb : Nat → Option Fd) (b : CE) (r : Rs (Bool)) : Rs RV := r.bind fun c s => if c then kTt (asB (evE cl tb b s)) else .ok (.val (.bl false)) s
@[simp] theorem kAndT_ok (cl : Cl) (tb : Nat → Option Fd) (b : CE) (c : Bool) (s : Sg) : kAndT cl tb b (.ok c s) = (if c then kTt (asB (evE cl tb b s)) else .ok (.val (.bl false)) s) := rfl
def kOrT (cl : Cl) (tb : Nat → Option Fd) (b : CE) (r : Rs (Bool)) : Rs RV := r.bind fun c s => if c then .ok (.val (.bl true)) s else kTt (asB (evE cl tb b s))
@[simp] theorem kOrT_ok (cl : Cl) (tb : Nat → Option Fd) (b : CE) (c : Bool) (s : Sg) : kOrT cl tb b (.ok c s) = (if c then .ok (.val (.bl true)) s else kTt (asB (evE cl tb b s))) := rfl
def kCmp2 (op : CmpOp) (x : RV) (r : Rs (RV)) : Rs RV := r.bind fun y s => match deref s x, deref s y with
    | some u, some w => (match cmpV op u w with
      | some c => .ok (.val (.bl c)) s
      | none => .no)
    | _, _ => .no
@[simp] theorem kCmp2_ok (op : CmpOp) (x : RV) (y : RV) (s : Sg) : kCmp2 op x (.ok y s) = (match deref s x, deref s y with
    | some u, some w => (match cmpV op u w with
      | some c => .ok (.val (.bl c)) s
      | none => .no)
    | _, _ => .no) := rfl
def kCmp1 (cl : Cl) (tb : Nat → Option Fd) (op : CmpOp) (b : CE) (r : Rs (RV)) : Rs RV := r.bind fun x s => kCmp2 op x (evE cl tb b s)
@[simp] theorem kCmp1_ok (cl : Cl) (tb : Nat → Option Fd) (op : CmpOp) (b : CE) (x : RV) (s : Sg) : kCmp1 cl tb op b (.ok x s) = (kCmp2 op x (evE cl tb b s)) := rfl
def kChn3 (p : CmpOp) (w : PV) (r : Rs (RV)) : Rs RV := r.bind fun z s => match z.val? with
    | some u => (match cmpV p w u with
      | some d => .ok (.val (.bl d)) s
      | none => .no)
    | none => .no
@[simp] theorem kChn3_ok (p : CmpOp) (w : PV) (z : RV) (s : Sg) : kChn3 p w (.ok z s) = (match z.val? with
    | some u => (match cmpV p w u with
      | some d => .ok (.val (.bl d)) s
      | none => .no)
    | none => .no) := rfl
def kChn2 (cl : Cl) (tb : Nat → Option Fd) (o : CmpOp) (p : CmpOp) (c : CE) (x : RV) (r : Rs (RV)) : Rs RV := r.bind fun y s => match x.val?, y.val? with
    | some u, some w => (match cmpV o u w with
      | some true => kChn3 p w (evE cl tb c s)
      | some false => .ok (.val (.bl false)) s
      | none => .no)
    | _, _ => .no
@[simp] theorem kChn2_ok (cl : Cl) (tb : Nat → Option Fd) (o : CmpOp) (p : CmpOp) (c : CE) (x : RV) (y : RV) (s : Sg) : kChn2 cl tb o p c x (.ok y s) = (match x.val?, y.val? with
    | some u, some w => (match cmpV o u w with
      | some true => kChn3 p w (evE cl tb c s)
      | some false => .ok (.val (.bl false)) s
      | none => .no)
    | _, _ => .no) := rfl
def kChn1 (cl : Cl) (tb : Nat → Option Fd) (o : CmpOp) (p : CmpOp) (b : CE) (c : CE) (r : Rs (RV)) : Rs RV := r.bind fun x s => kChn2 cl tb o p c x (evE cl tb b s)
@[simp] theorem kChn1_ok (cl : Cl) (tb : Nat → Option Fd) (o : CmpOp) (p : CmpOp) (b : CE) (c : CE) (x : RV) (s : Sg) : kChn1 cl tb o p b c (.ok x s) = (kChn2 cl tb o p c x (evE cl tb b s)) := rfl
def kIf (cl : Cl) (tb : Nat → Option Fd) (a : CE) (b : CE) (r : Rs (Bool)) : Rs RV := r.bind fun c s => if c then evE cl tb a s else evE cl tb b s
@[simp] theorem kIf_ok (cl : Cl) (tb : Nat → Option Fd) (a : CE) (b : CE) (c : Bool) (s : Sg) : kIf cl tb a b (.ok c s) = (if c then evE cl tb a s else evE cl tb b s) := rfl
def kTup  (r : Rs (List RV)) : Rs RV := r.bind fun rs s => match valsOf rs with
    | some l => if l.length ≤ line then .ok (.val (.tup l)) s else .no
    | none => .no
@[simp] theorem kTup_ok  (rs : List RV) (s : Sg) : kTup  (.ok rs s) = (match valsOf rs with
    | some l => if l.length ≤ line then .ok (.val (.tup l)) s else .no
    | none => .no) := rfl
def kLst  (r : Rs (List RV)) : Rs RV := r.bind fun rs s => match valsOf rs with
    | some l => if l.length ≤ line then .ok (.frs (.lst l)) s else .no
    | none => .no
@[simp] theorem kLst_ok  (rs : List RV) (s : Sg) : kLst  (.ok rs s) = (match valsOf rs with
    | some l => if l.length ≤ line then .ok (.frs (.lst l)) s else .no
    | none => .no) := rfl
def kSub2 (x : RV) (r : Rs (RV)) : Rs RV := r.bind fun y s => match deref s x, deref s y with
    | some u, some w => (match subV u w with
      | some z => .ok (.val z) s
      | none => .no)
    | _, _ => .no
@[simp] theorem kSub2_ok (x : RV) (y : RV) (s : Sg) : kSub2 x (.ok y s) = (match deref s x, deref s y with
    | some u, some w => (match subV u w with
      | some z => .ok (.val z) s
      | none => .no)
    | _, _ => .no) := rfl
def kSub1 (cl : Cl) (tb : Nat → Option Fd) (b : CE) (r : Rs (RV)) : Rs RV := r.bind fun x s => kSub2 x (evE cl tb b s)
@[simp] theorem kSub1_ok (cl : Cl) (tb : Nat → Option Fd) (b : CE) (x : RV) (s : Sg) : kSub1 cl tb b (.ok x s) = (kSub2 x (evE cl tb b s)) := rfl
def kSl3 (x : RV) (l : Option Int) (r : Rs (Option Int)) : Rs RV := r.bind fun h s => match deref s x with
    | some u => ret1 s (slcV u l h)
    | none => .no
@[simp] theorem kSl3_ok (x : RV) (l : Option Int) (h : Option Int) (s : Sg) : kSl3 x l (.ok h s) = (match deref s x with
    | some u => ret1 s (slcV u l h)
    | none => .no) := rfl
def kSl2 (cl : Cl) (tb : Nat → Option Fd) (hi : Option CE) (x : RV) (r : Rs (Option Int)) : Rs RV := r.bind fun l s => kSl3 x l (evO cl tb hi s)
@[simp] theorem kSl2_ok (cl : Cl) (tb : Nat → Option Fd) (hi : Option CE) (x : RV) (l : Option Int) (s : Sg) : kSl2 cl tb hi x (.ok l s) = (kSl3 x l (evO cl tb hi s)) := rfl
def kSl1 (cl : Cl) (tb : Nat → Option Fd) (lo : Option CE) (hi : Option CE) (r : Rs (RV)) : Rs RV := r.bind fun x s => kSl2 cl tb hi x (evO cl tb lo s)
@[simp] theorem kSl1_ok (cl : Cl) (tb : Nat → Option Fd) (lo : Option CE) (hi : Option CE) (x : RV) (s : Sg) : kSl1 cl tb lo hi (.ok x s) = (kSl2 cl tb hi x (evO cl tb lo s)) := rfl
def kCal (cl : Cl) (tb : Nat → Option Fd) (g : Nat) (r : Rs (List RV)) : Rs RV := r.bind fun rs s => callG cl tb g rs s
@[simp] theorem kCal_ok (cl : Cl) (tb : Nat → Option Fd) (g : Nat) (rs : List RV) (s : Sg) : kCal cl tb g (.ok rs s) = (callG cl tb g rs s) := rfl
def kBui (b : Bi) (r : Rs (List RV)) : Rs RV := r.bind fun rs s => match derefs s rs with
    | some l => ret1 s (biV b l)
    | none => .no
@[simp] theorem kBui_ok (b : Bi) (rs : List RV) (s : Sg) : kBui b (.ok rs s) = (match derefs s rs with
    | some l => ret1 s (biV b l)
    | none => .no) := rfl
def kRev  (r : Rs (RV)) : Rs RV := r.bind fun x s => match deref s x with
    | some (.lst l) => .ok (.frs (.lst l.reverse)) s
    | _ => .no
@[simp] theorem kRev_ok  (x : RV) (s : Sg) : kRev  (.ok x s) = (match deref s x with
    | some (.lst l) => .ok (.frs (.lst l.reverse)) s
    | _ => .no) := rfl
def kLc (cl : Cl) (tb : Nat → Option Fd) (own : List Nat) (tg : Tg) (k : IK) (ifs : List CE) (e : CE) (r : Rs (List RV)) : Rs RV := r.bind fun rs s => match valsOf rs with
    | some l => (match itV k l with
      | some xs => (lcGo own tg (evT cl tb ifs) (evE cl tb e) xs 0 [] s).bind fun ys s2 => .ok (.frs (.lst ys)) s2
      | none => .no)
    | none => .no
@[simp] theorem kLc_ok (cl : Cl) (tb : Nat → Option Fd) (own : List Nat) (tg : Tg) (k : IK) (ifs : List CE) (e : CE) (rs : List RV) (s : Sg) : kLc cl tb own tg k ifs e (.ok rs s) = (match valsOf rs with
    | some l => (match itV k l with
      | some xs => (lcGo own tg (evT cl tb ifs) (evE cl tb e) xs 0 [] s).bind fun ys s2 => .ok (.frs (.lst ys)) s2
      | none => .no)
    | none => .no) := rfl
def kEs2 (w : RV) (r : Rs (List RV)) : Rs (List RV) := r.bind fun rs s => .ok (w :: rs) s
@[simp] theorem kEs2_ok (w : RV) (rs : List RV) (s : Sg) : kEs2 w (.ok rs s) = (.ok (w :: rs) s) := rfl
def kEs1 (cl : Cl) (tb : Nat → Option Fd) (es : List CE) (r : Rs (RV)) : Rs (List RV) := r.bind fun w s => kEs2 w (evEs cl tb es s)
@[simp] theorem kEs1_ok (cl : Cl) (tb : Nat → Option Fd) (es : List CE) (w : RV) (s : Sg) : kEs1 cl tb es (.ok w s) = (kEs2 w (evEs cl tb es s)) := rfl
def kO  (r : Rs (RV)) : Rs (Option Int) := r.bind fun x s => match x.int? with
    | some i => .ok (some i) s
    | none => .no
@[simp] theorem kO_ok  (x : RV) (s : Sg) : kO  (.ok x s) = (match x.int? with
    | some i => .ok (some i) s
    | none => .no) := rfl
def kAsg (t : Tg) (r : Rs (RV)) : Ss := toSs r fun x s => match t.asg x s with
    | some s2 => .nx s2
    | none => .no
@[simp] theorem kAsg_ok (t : Tg) (x : RV) (s : Sg) : kAsg t (.ok x s) = (match t.asg x s with
    | some s2 => .nx s2
    | none => .no) := rfl
def kPar (is : List Nat) (r : Rs (List RV)) : Ss := toSs r fun rs s => match setAll is rs s with
    | some s2 => .nx s2
    | none => .no
@[simp] theorem kPar_ok (is : List Nat) (rs : List RV) (s : Sg) : kPar is (.ok rs s) = (match setAll is rs s with
    | some s2 => .nx s2
    | none => .no) := rfl
def kExp  (r : Rs (RV)) : Ss := toSs r fun _x s => .nx s
@[simp] theorem kExp_ok  (_x : RV) (s : Sg) : kExp  (.ok _x s) = (.nx s) := rfl
def kRet  (r : Rs (RV)) : Ss := toSs r fun x s => match retV s x with
    | some (y, s2) => .rt y s2
    | none => .no
@[simp] theorem kRet_ok  (x : RV) (s : Sg) : kRet  (.ok x s) = (match retV s x with
    | some (y, s2) => .rt y s2
    | none => .no) := rfl
def kIte (cl : Cl) (tb : Nat → Option Fd) (a : List CS) (b : List CS) (r : Rs (Bool)) : Ss := toSs r fun c s => if c then exSs cl tb a s else exSs cl tb b s
@[simp] theorem kIte_ok (cl : Cl) (tb : Nat → Option Fd) (a : List CS) (b : List CS) (c : Bool) (s : Sg) : kIte cl tb a b (.ok c s) = (if c then exSs cl tb a s else exSs cl tb b s) := rfl
def kSet2 (i : Nat) (x : RV) (r : Rs (RV)) : Ss := toSs r fun y s => match valOf x, y.int?, ownL s i with
      | some w, some k, some (t, l) => (match ixP l.length k with
        | some m => .nx (s.set i (.own t (.lst (l.set m w))))
        | none => .no)
      | _, _, _ => .no
@[simp] theorem kSet2_ok (i : Nat) (x : RV) (y : RV) (s : Sg) : kSet2 i x (.ok y s) = (match valOf x, y.int?, ownL s i with
      | some w, some k, some (t, l) => (match ixP l.length k with
        | some m => .nx (s.set i (.own t (.lst (l.set m w))))
        | none => .no)
      | _, _, _ => .no) := rfl
def kSet1 (cl : Cl) (tb : Nat → Option Fd) (i : Nat) (ix : CE) (r : Rs (RV)) : Ss := toSs r fun x s => match isOwnL s i with
    | true => kSet2 i x (evE cl tb ix s)
    | false => .no
@[simp] theorem kSet1_ok (cl : Cl) (tb : Nat → Option Fd) (i : Nat) (ix : CE) (x : RV) (s : Sg) : kSet1 cl tb i ix (.ok x s) = (match isOwnL s i with
    | true => kSet2 i x (evE cl tb ix s)
    | false => .no) := rfl
def kAug (i : Nat) (m : Int) (op : Operator) (r : Rs (RV)) : Ss := toSs r fun x s => match x.int? with
      | some k => (match op with
        | .Add => .nx (s.set i (.pv (.int (m + k))))
        | .Sub => .nx (s.set i (.pv (.int (m - k))))
        | _ => .no)
      | none => .no
@[simp] theorem kAug_ok (i : Nat) (m : Int) (op : Operator) (x : RV) (s : Sg) : kAug i m op (.ok x s) = (match x.int? with
      | some k => (match op with
        | .Add => .nx (s.set i (.pv (.int (m + k))))
        | .Sub => .nx (s.set i (.pv (.int (m - k))))
        | _ => .no)
      | none => .no) := rfl
def kApp (i : Nat) (r : Rs (RV)) : Ss := toSs r fun x s => match valOf x, ownL s i with
      | some w, some (t, l) => if l.length < line then .nx (s.set i (.own t (.lst (l ++ [w])))) else .no
      | _, _ => .no
@[simp] theorem kApp_ok (i : Nat) (x : RV) (s : Sg) : kApp i (.ok x s) = (match valOf x, ownL s i with
      | some w, some (t, l) => if l.length < line then .nx (s.set i (.own t (.lst (l ++ [w])))) else .no
      | _, _ => .no) := rfl
def kFro (cl : Cl) (tb : Nat → Option Fd) (tg : Tg) (k : IK) (b : List CS) (r : Rs (List RV)) : Ss := toSs r fun rs s => match valsOf rs with
    | some l => (match itV k l with
      | some xs => frGo tg (exSs cl tb b) xs s
      | none => .no)
    | none => .no
@[simp] theorem kFro_ok (cl : Cl) (tb : Nat → Option Fd) (tg : Tg) (k : IK) (b : List CS) (rs : List RV) (s : Sg) : kFro cl tb tg k b (.ok rs s) = (match valsOf rs with
    | some l => (match itV k l with
      | some xs => frGo tg (exSs cl tb b) xs s
      | none => .no)
    | none => .no) := rfl
section
variable (cl : Cl) (tb : Nat → Option Fd) (s : Sg)
@[simp] theorem x_nil : exSs cl tb [] s = .nx s := rfl
@[simp] theorem x_cons (c : CS) (cs : List CS) : exSs cl tb (c :: cs) s = (exS cl tb c s).seq (exSs cl tb cs) := by
  show (match exS cl tb c s with
    | .nx s1 => exSs cl tb cs s1
    | r => r) = _
  cases exS cl tb c s <;> rfl
theorem x_append (l1 l2 : List CS) (s : Sg) : exSs cl tb (l1 ++ l2) s = (exSs cl tb l1 s).seq (exSs cl tb l2) := by
  induction l1 generalizing s with
  | nil => rfl
  | cons c cs ih =>
    rw [List.cons_append, x_cons, x_cons]
    cases e : exS cl tb c s with
    | nx s1 => exact ih s1
    | _ => rfl
@[simp] theorem x_asg (t : Tg) (e : CE) : exS cl tb (.asg t e) s = kAsg t (evE cl tb e s) := rfl
@[simp] theorem x_par (is : List Nat) (es : List CE) : exS cl tb (.par is es) s = kPar is (evEs cl tb es s) := rfl
@[simp] theorem x_exp (e : CE) : exS cl tb (.exp e) s = kExp (evE cl tb e s) := rfl
@[simp] theorem x_ret (e : CE) : exS cl tb (.ret e) s = kRet (evE cl tb e s) := rfl
@[simp] theorem x_retN : exS cl tb .retN s = .rt (.val .non) s := rfl
@[simp] theorem x_ite (t : CE) (a b : List CS) : exS cl tb (.ite t a b) s = kIte cl tb a b (asB (evE cl tb t s)) := rfl
@[simp] theorem x_brk : exS cl tb .brk s = .bk s := rfl
@[simp] theorem x_cnt : exS cl tb .cnt s = .ct s := rfl
@[simp] theorem x_pas : exS cl tb .pas s = .nx s := rfl
@[simp] theorem x_set (i : Nat) (ix e : CE) : exS cl tb (.set i ix e) s = kSet1 cl tb i ix (evE cl tb e s) := rfl
@[simp] theorem x_aug (i : Nat) (op : Operator) (e : CE) : exS cl tb (.aug i op e) s = (match s[i]? with
    | some (.pv (.int m)) => kAug i m op (evE cl tb e s)
    | _ => .no) := rfl
@[simp] theorem x_app (i : Nat) (e : CE) : exS cl tb (.app i e) s = (match isOwnL s i with
    | true => kApp i (evE cl tb e s)
    | false => .no) := rfl
theorem x_fro (tg : Tg) (k : IK) (src : List CE) (b : List CS) : exS cl tb (.fro tg k src b) s = kFro cl tb tg k b (evEs cl tb src s) := rfl
theorem x_fro' {tg : Tg} {k : IK} {src : List CE} {b : List CS} {rs : List RV} {l xs : List PV} {s1 : Sg} (h1 : evEs cl tb src s = .ok rs s1) (h2 : valsOf rs = some l) (h3 : itV k l = some xs) : exS cl tb (.fro tg k src b) s = frGo tg (exSs cl tb b) xs s1 := by
  rw [x_fro, h1, kFro_ok, h2]
  dsimp only
  rw [h3]
theorem x_whl (t : CE) (b : List CS) : exS cl tb (.whl t b) s = whGo (fun s => asB (evE cl tb t s)) (exSs cl tb b) fuel s := rfl
@[simp] theorem v_var (i : Nat) : evE cl tb (.var i) s = (match s[i]? with
    | some (.pv x) => .ok (.val x) s
    | some (.own _ x) => .ok (.val x) (s.set i (.pv x))
    | _ => .no) := rfl
@[simp] theorem v_bor (i : Nat) : evE cl tb (.bor i) s = (match s[i]? with
    | some (.pv x) => .ok (.val x) s
    | some (.own _ _) => .ok (.bor i) s
    | _ => .no) := rfl
@[simp] theorem v_cst (v : PV) : evE cl tb (.cst v) s = .ok (.val v) s := rfl
@[simp] theorem v_bin (op : Operator) (a b : CE) : evE cl tb (.bin op a b) s = kBin1 cl tb op b (evE cl tb a s) := rfl
@[simp] theorem v_neg (a : CE) : evE cl tb (.neg a) s = kNeg (evE cl tb a s) := rfl
@[simp] theorem v_not (a : CE) : evE cl tb (.not a) s = kNot (asB (evE cl tb a s)) := rfl
@[simp] theorem v_and (a b : CE) : evE cl tb (.and a b) s = kAnd cl tb b (evE cl tb a s) := rfl
@[simp] theorem v_or (a b : CE) : evE cl tb (.or a b) s = kOr cl tb b (evE cl tb a s) := rfl
@[simp] theorem v_andT (a b : CE) : evE cl tb (.andT a b) s = kAndT cl tb b (asB (evE cl tb a s)) := rfl
@[simp] theorem v_orT (a b : CE) : evE cl tb (.orT a b) s = kOrT cl tb b (asB (evE cl tb a s)) := rfl
@[simp] theorem v_notT (a : CE) : evE cl tb (.notT a) s = kNot (asB (evE cl tb a s)) := rfl
@[simp] theorem v_tru (a : CE) : evE cl tb (.tru a) s = evE cl tb a s := rfl
@[simp] theorem v_cmp (op : CmpOp) (a b : CE) : evE cl tb (.cmp op a b) s = kCmp1 cl tb op b (evE cl tb a s) := rfl
@[simp] theorem v_chn (o p : CmpOp) (a b c : CE) : evE cl tb (.chn o p a b c) s = kChn1 cl tb o p b c (evE cl tb a s) := rfl
@[simp] theorem v_ife (t a b : CE) : evE cl tb (.ife t a b) s = kIf cl tb a b (asB (evE cl tb t s)) := rfl
@[simp] theorem v_tup (es : List CE) : evE cl tb (.tup es) s = kTup (evEs cl tb es s) := rfl
@[simp] theorem v_lst (es : List CE) : evE cl tb (.lst es) s = kLst (evEs cl tb es s) := rfl
@[simp] theorem v_sub (a b : CE) : evE cl tb (.sub a b) s = kSub1 cl tb b (evE cl tb a s) := rfl
@[simp] theorem v_slc (a : CE) (lo hi : Option CE) : evE cl tb (.slc a lo hi) s = kSl1 cl tb lo hi (evE cl tb a s) := rfl
@[simp] theorem v_cal (g : Nat) (es : List CE) : evE cl tb (.cal g es) s = kCal cl tb g (evEs cl tb es s) := rfl
@[simp] theorem v_bui (b : Bi) (es : List CE) : evE cl tb (.bui b es) s = kBui b (evEs cl tb es s) := rfl
@[simp] theorem v_rev (a : CE) : evE cl tb (.rev a) s = kRev (evE cl tb a s) := rfl
theorem v_lc (own : List Nat) (tg : Tg) (k : IK) (src ifs : List CE) (e : CE) : evE cl tb (.lc own tg k src ifs e) s = kLc cl tb own tg k ifs e (evEs cl tb src s) := rfl
@[simp] theorem vs_nil : evEs cl tb [] s = .ok [] s := rfl
@[simp] theorem vs_cons (e : CE) (es : List CE) : evEs cl tb (e :: es) s = kEs1 cl tb es (evE cl tb e s) := rfl
theorem v_lc' {own : List Nat} {tg : Tg} {k : IK} {src ifs : List CE} {e : CE} {rs : List RV} {l xs : List PV} {s1 : Sg} (h1 : evEs cl tb src s = .ok rs s1) (h2 : valsOf rs = some l) (h3 : itV k l = some xs) :
    evE cl tb (.lc own tg k src ifs e) s = (lcGo own tg (evT cl tb ifs) (evE cl tb e) xs 0 [] s1).bind fun ys s2 => .ok (.frs (.lst ys)) s2 := by
  rw [v_lc, h1, kLc_ok, h2]
  dsimp only
  rw [h3]
@[simp] theorem vo_none : evO cl tb none s = .ok none s := rfl
@[simp] theorem vo_some (e : CE) : evO cl tb (some e) s = kO (evE cl tb e s) := rfl
@[simp] theorem vt_nil : evT cl tb [] s = .ok true s := rfl
end
section
variable (s : Sg) (x : PV) (i : Nat)
@[simp] theorem deref_val : deref s (.val x) = some x := rfl
@[simp] theorem deref_frs : deref s (.frs x) = some x := rfl
@[simp] theorem deref_bor : deref s (.bor i) = (match s[i]? with
    | some (.pv x) => some x
    | some (.own _ x) => some x
    | _ => none) := rfl
@[simp] theorem derefs_nil : derefs s [] = some [] := rfl
@[simp] theorem derefs_cons (r : RV) (rs : List RV) : derefs s (r :: rs) = (match deref s r, derefs s rs with
    | some x, some xs => some (x :: xs)
    | _, _ => none) := rfl
@[simp] theorem valOf_val : valOf (.val x) = some x := rfl
@[simp] theorem valOf_frs : valOf (.frs x) = some x := rfl
@[simp] theorem valsOf_nil : valsOf [] = some [] := rfl
@[simp] theorem valsOf_cons (r : RV) (rs : List RV) : valsOf (r :: rs) = (match valOf r, valsOf rs with
    | some x, some xs => some (x :: xs)
    | _, _ => none) := rfl
@[simp] theorem ret1_some (r : RV) : ret1 s (some r) = .ok r s := rfl
@[simp] theorem rv_int (k : Int) : RV.int? (.val (.int k)) = some k := rfl
@[simp] theorem rv_bl (b : Bool) : RV.bl? (.val (.bl b)) = some b := rfl
@[simp] theorem rv_val : RV.val? (.val x) = some x := rfl
@[simp] theorem callG_eq (cl : Cl) (tb : Nat → Option Fd) (g : Nat) (rs : List RV) : callG cl tb g rs s = (match tb g with
  | none => .no
  | some d => if rs.length ≤ d.np ∧ d.np ≤ rs.length + d.dfl.length ∧ (bors rs).Nodup then
      match argSlots s d.mp 0 rs with
      | none => .no
      | some as => match cl g (as ++ (d.dfl.drop (rs.length + d.dfl.length - d.np)).map Slot.pv) with
        | .ok r as' => if isBor r then .no else .ok r (giveBack rs as' s)
        | .er x as' => .er x (giveBack rs as' s)
        | .no => .no
    else .no) := rfl
@[simp] theorem arg_nil (mp : List Nat) (k : Nat) : argSlots s mp k [] = some [] := rfl
@[simp] theorem arg_val (mp : List Nat) (k : Nat) (rs : List RV) : argSlots s mp k (.val x :: rs) = (match argSlots s mp (k + 1) rs with
    | none => none
    | some l => some (.pv x :: l)) := rfl
@[simp] theorem arg_frs (mp : List Nat) (k : Nat) (rs : List RV) : argSlots s mp k (.frs x :: rs) = (match argSlots s mp (k + 1) rs with
    | none => none
    | some l => some (.own false x :: l)) := rfl
@[simp] theorem arg_bor (mp : List Nat) (k : Nat) (rs : List RV) : argSlots s mp k (.bor i :: rs) = (match argSlots s mp (k + 1) rs with
    | none => none
    | some l => if mp.contains k then (match s[i]? with
        | some (.own _ x) => some (.own false x :: l)
        | _ => none) else none) := rfl
@[simp] theorem bors_nil : bors [] = [] := rfl
@[simp] theorem bors_val (rs : List RV) : bors (.val x :: rs) = bors rs := rfl
@[simp] theorem bors_frs (rs : List RV) : bors (.frs x :: rs) = bors rs := rfl
@[simp] theorem bors_bor (rs : List RV) : bors (.bor i :: rs) = i :: bors rs := rfl
@[simp] theorem gb_nil (as : Sg) : giveBack [] as s = s := by unfold giveBack; rfl
@[simp] theorem gb_val (rs : List RV) (a : Slot) (as : Sg) : giveBack (.val x :: rs) (a :: as) s = giveBack rs as s := rfl
@[simp] theorem gb_frs (rs : List RV) (a : Slot) (as : Sg) : giveBack (.frs x :: rs) (a :: as) s = giveBack rs as s := rfl
@[simp] theorem gb_bor1 (rs : List RV) (a : Slot) (as : Sg) : giveBack (.bor i :: rs) (a :: as) s = giveBack rs as (s.set i a) := rfl
@[simp] theorem isBor_val : isBor (.val x) = false := rfl
@[simp] theorem isBor_frs : isBor (.frs x) = false := rfl
@[simp] theorem setAll_nil : setAll [] [] s = some s := rfl
@[simp] theorem setAll_cons (is : List Nat) (r : RV) (rs : List RV) : setAll (i :: is) (r :: rs) s = (match Tg.asg (.nm i) r s with
    | some s1 => setAll is rs s1
    | none => none) := rfl
@[simp] theorem asg_frs : Tg.asg (.nm i) (.frs x) s = if i < s.length then some (s.set i (.own true x)) else none := rfl
@[simp] theorem asg_val : Tg.asg (.nm i) (.val x) s = if i < s.length then some (s.set i (.pv x)) else none := rfl
@[simp] theorem asg_tp (ts : List Tg) (xs : List PV) : Tg.asg (.tp ts) (.val (.tup xs)) s = Tg.storeL ts xs s := rfl
@[simp] theorem sto_nm : Tg.store (.nm i) x s = if i < s.length then some (s.set i (.pv x)) else none := rfl
@[simp] theorem sto_tp (ts : List Tg) (xs : List PV) : Tg.store (.tp ts) (.tup xs) s = Tg.storeL ts xs s := rfl
@[simp] theorem stl_nil : Tg.storeL [] [] s = some s := rfl
@[simp] theorem stl_cons (t : Tg) (ts : List Tg) (xs : List PV) : Tg.storeL (t :: ts) (x :: xs) s = (match t.store x s with
    | some s1 => Tg.storeL ts xs s1
    | none => none) := rfl
@[simp] theorem retV_val : retV s (.val x) = some (.val x, s) := rfl
@[simp] theorem retV_frs : retV s (.frs x) = some (.frs x, s) := rfl
@[simp] theorem retV_bor : retV s (.bor i) = (match s[i]? with
    | some (.own true x) => some (.frs x, s.set i .un)
    | _ => none) := rfl
@[simp] theorem outs_nil (mp : List Nat) (k : Nat) : outs mp s k [] = [] := rfl
@[simp] theorem outs_pv (mp : List Nat) (k : Nat) (as : Sg) : outs mp s k (.pv x :: as) = .pv x :: outs mp s (k + 1) as := rfl
@[simp] theorem outs_own (mp : List Nat) (k : Nat) (b : Bool) (as : Sg) : outs mp s k (.own b x :: as) = (if mp.contains k then (s[k]?).getD .un else .un) :: outs mp s (k + 1) as := rfl
@[simp] theorem outs_un (mp : List Nat) (k : Nat) (as : Sg) : outs mp s k (.un :: as) = .un :: outs mp s (k + 1) as := rfl
@[simp] theorem isOwnL_eq : isOwnL s i = (match s[i]? with
  | some (.own _ (.lst _)) => true
  | _ => false) := rfl
@[simp] theorem ownL_eq : ownL s i = (match s[i]? with
  | some (.own t (.lst l)) => some (t, l)
  | _ => none) := rfl
@[simp] theorem isN_non : PV.isN .non = true := rfl
@[simp] theorem isN_int (k : Int) : PV.isN (.int k) = false := rfl
@[simp] theorem isN_tup (l : List PV) : PV.isN (.tup l) = false := rfl
@[simp] theorem bools_nil : bools [] = some [] := rfl
@[simp] theorem bools_cons (b : Bool) (r : List PV) : bools (.bl b :: r) = (match bools r with
    | some l => some (b :: l)
    | none => none) := rfl
@[simp] theorem ixP_eq1 (n : Nat) (k : Int) : ixP n k = if 0 ≤ k then (if k < n then some k.toNat else none) else if -(n : Int) ≤ k then some (k + n).toNat else none := rfl
@[simp] theorem atP_eq {α : Type} (xs : List α) (k : Int) : atP xs k = (match ixP xs.length k with
  | some j => xs[j]?
  | none => none) := rfl
end
section
variable (l k : List PV) (s : Str) (i j : Int) (b : Bool) (x y : PV) (n : String)
@[simp] theorem bi_len1 : biV .len [.tup l] = some (.val (.int l.length)) := rfl
@[simp] theorem bi_len2 : biV .len [.lst l] = some (.val (.int l.length)) := rfl
@[simp] theorem bi_len3 : biV .len [.frz l] = some (.val (.int l.length)) := rfl
@[simp] theorem bi_len4 : biV .len [.str s] = if s.length ≤ line then some (.val (.int s.length)) else none := rfl
@[simp] theorem bi_abs : biV .abs [.int i] = some (.val (.int (if i < 0 then -i else i))) := rfl
@[simp] theorem bi_int1 : biV .int [.int i] = some (.val (.int i)) := rfl
@[simp] theorem bi_int2 : biV .int [.bl b] = some (.val (.int (if b then 1 else 0))) := rfl
@[simp] theorem bi_max : biV .max [.int i, .int j] = some (.val (.int (if j > i then j else i))) := rfl
@[simp] theorem bi_min : biV .min [.int i, .int j] = some (.val (.int (if j < i then j else i))) := rfl
@[simp] theorem bi_tup1 : biV .tuple [.tup l] = some (.val (.tup l)) := rfl
@[simp] theorem bi_tup2 : biV .tuple [.lst l] = some (.val (.tup l)) := rfl
@[simp] theorem bi_lst1 : biV .list [.tup l] = some (.frs (.lst l)) := rfl
@[simp] theorem bi_lst2 : biV .list [.lst l] = some (.frs (.lst l)) := rfl
@[simp] theorem bi_all : biV .all [.lst l] = (match bools l with
    | some bs => some (.val (.bl (bs.all id)))
    | none => none) := rfl
@[simp] theorem bi_any : biV .any [.lst l] = (match bools l with
    | some bs => some (.val (.bl (bs.any id)))
    | none => none) := rfl
theorem bi_repr : biV .repr [x] = if x.dat 20 && x.toD.showable && decide (x.toD.shown.length ≤ line) then some (.val (.str x.toD.shown)) else none := rfl
@[simp] theorem bi_isi : biV .isi [x, .ty n] = (match isiV x n with
    | some b => some (.val (.bl b))
    | none => none) := rfl
@[simp] theorem bin_int (op : Operator) : binV op (.int i) (.int j) = (binI op i j).map fun k => .val (.int k) := by cases op <;> rfl
@[simp] theorem bin_str (a b : Str) : binV .Add (.str a) (.str b) = if a.length + b.length ≤ line then some (.val (.str (a ++ b))) else none := rfl
@[simp] theorem bin_tup : binV .Add (.tup l) (.tup k) = if l.length + k.length ≤ line then some (.val (.tup (l ++ k))) else none := rfl
@[simp] theorem bin_lst : binV .Add (.lst l) (.lst k) = if l.length + k.length ≤ line then some (.frs (.lst (l ++ k))) else none := rfl
@[simp] theorem sub_tup : subV (.tup l) (.int i) = atP l i := rfl
@[simp] theorem sub_lst : subV (.lst l) (.int i) = atP l i := rfl
@[simp] theorem sub_frz : subV (.frz l) (.int i) = atP l i := rfl
@[simp] theorem cmp_lt : cmpV .Lt (.int i) (.int j) = some (decide (i < j)) := rfl
@[simp] theorem cmp_le : cmpV .LtE (.int i) (.int j) = some (decide (i ≤ j)) := rfl
@[simp] theorem cmp_gt : cmpV .Gt (.int i) (.int j) = some (decide (j < i)) := rfl
@[simp] theorem cmp_ge : cmpV .GtE (.int i) (.int j) = some (decide (j ≤ i)) := rfl
@[simp] theorem cmp_eqi : cmpV .Eq (.int i) (.int j) = some (decide (i = j)) := by
  show (if (PV.int i).dat 20 && (PV.int j).dat 20 then some ((PV.int i).eqv (.int j)) else none) = _
  simp [PV.dat, PV.isd, PV.dep, PV.eqv]
@[simp] theorem cmp_nei : cmpV .NotEq (.int i) (.int j) = some (!decide (i = j)) := by
  show (if (PV.int i).dat 20 && (PV.int j).dat 20 then some (!(PV.int i).eqv (.int j)) else none) = _
  simp [PV.dat, PV.isd, PV.dep, PV.eqv]
@[simp] theorem cmp_eqs (t : Str) : cmpV .Eq (.str s) (.str t) = some (decide (s = t)) := rfl
@[simp] theorem cmp_nes (t : Str) : cmpV .NotEq (.str s) (.str t) = some (!decide (s = t)) := rfl
theorem cmp_eqp (a b : List PV) : cmpV .Eq (.tup a) (.tup b) = if (PV.tup a).dat 20 && (PV.tup b).dat 20 then some ((PV.tup a).eqv (.tup b)) else none := rfl
theorem cmp_eql (a b : List PV) : cmpV .Eq (.lst a) (.lst b) = if (PV.lst a).dat 20 && (PV.lst b).dat 20 then some ((PV.lst a).eqv (.lst b)) else none := rfl
@[simp] theorem cmp_is : cmpV .Is x .non = some x.isN := rfl
@[simp] theorem cmp_isn : cmpV .IsNot x .non = some (!x.isN) := rfl
@[simp] theorem it_tup : itV .val [.tup l] = some l := rfl
@[simp] theorem it_lst : itV .val [.lst l] = some l := rfl
theorem it_rng : itV .rng [.int j] = if -(2 ^ 62) ≤ j ∧ j < 2 ^ 62 then some ((List.range j.toNat).map fun (i : Nat) => PV.int (0 + i)) else none := rfl
theorem it_rng2 : itV .rng2 [.int i, .int j] = if -(2 ^ 62) ≤ i ∧ i < 2 ^ 62 ∧ -(2 ^ 62) ≤ j ∧ j < 2 ^ 62 then some ((List.range (j - i).toNat).map fun (k : Nat) => PV.int (i + k)) else none := rfl
@[simp] theorem isi_int : isiV (.int i) "int" = some true := rfl
@[simp] theorem isi_intb : isiV (.int i) "bool" = some false := rfl
@[simp] theorem isi_intt : isiV (.int i) "tuple" = some false := rfl
@[simp] theorem isi_tup : isiV (.tup l) "tuple" = some true := rfl
@[simp] theorem isi_str : isiV (.str s) "str" = some true := rfl
end
theorem it_rngN (n : Nat) (h : n ≤ 1000000) : itV .rng [.int (n : Int)] = some ((List.range n).map fun (i : Nat) => PV.int i) := by
  rw [it_rng, if_pos ⟨by omega, by omega⟩, Int.toNat_natCast]
  congr 1
  exact List.map_congr_left fun i _ => by rw [Int.zero_add]
/-- simple data -/
@[simp] theorem dat_int (n : Nat) (i : Int) : (PV.int i).dat n = true := by simp [PV.dat, PV.isd, PV.dep]
@[simp] theorem siz_line (n : Nat) (h : n ≤ 16777216) : n ≤ line := h
/-- one call, a level deeper -/
theorem run1 {tb : Nat → Option Fd} {n g : Nat} {as : Sg} {d : Fd} (h : tb g = some d) (hl : as.length = d.np) : runF tb (n + 1) g as = (match exSs (runF tb n) tb d.body (as ++ List.replicate (d.N.length - d.np) .un) with
    | .nx s => .ok (.val .non) (outs d.mp s 0 as)
    | .rt r s => if isBor r then .no else .ok r (outs d.mp s 0 as)
    | .er x s => .er x (outs d.mp s 0 as)
    | _ => .no) := by
  rw [runF, h]
  exact if_pos hl
/-- a loop by an invariant -/
theorem wh_rule {t : Sg → Rs Bool} {b : Sg → Ss} (I : Nat → Sg → Prop) (post : Sg → Prop)
    (h : ∀ m s, I m s → (∃ s1, t s = .ok false s1 ∧ post s1) ∨ ∃ s1 s2 m', t s = .ok true s1 ∧ (b s1 = .nx s2 ∨ b s1 = .ct s2) ∧ m' < m ∧ I m' s2) : ∀ n m s, I m s → m < n → ∃ s', whGo t b n s = .nx s' ∧ post s'
  | 0, m, s, _, hm => absurd hm (Nat.not_lt_zero _)
  | n + 1, m, s, i, hm => by
    unfold whGo
    rcases h m s i with ⟨s1, e, p⟩ | ⟨s1, s2, m', e, e2, lt, i2⟩
    · rw [e]; exact ⟨s1, rfl, p⟩
    · rw [e]
      dsimp only
      rcases e2 with e2 | e2 <;> (rw [e2]; exact wh_rule I post h n m' s2 i2 (by omega))
/-- bits of a natural number -/
def siz (n : Nat) : Nat := if n = 0 then 0 else n.log2 + 1
theorem siz_half {r a : Nat} (h : 2 * r < a) : siz r < siz a := by
  unfold siz
  rw [if_neg (by omega : ¬ a = 0)]
  split
  · omega
  · rename_i hr
    have h1 : r.log2 + 1 = (2 * r).log2 := (Nat.log2_two_mul hr).symm
    have h2 : (2 * r).log2 ≤ a.log2 := (Nat.le_log2 (by omega)).mpr (Nat.le_trans (Nat.log2_self_le (by omega)) (Nat.le_of_lt h))
    omega
theorem siz_lt {n k : Nat} (h : n < 2 ^ k) : siz n ≤ k := by
  unfold siz
  split
  · omega
  · rename_i hn; have := (Nat.log2_lt hn).mpr h; omega
def euM (a b : Nat) : Nat := 2 * (siz a + siz b) + (if a < b then 1 else 0)
theorem eu_step {a b : Nat} (hb : 0 < b) : euM b (a % b) < euM a b := by
  unfold euM
  by_cases h : a < b
  · rw [Nat.mod_eq_of_lt h, if_pos h, if_neg (by omega)]
    omega
  · have h1 : a % b < b := Nat.mod_lt _ hb
    have h2 : 2 * (a % b) < a := by
      have := Nat.mod_add_div a b
      have h3 : 1 ≤ a / b := (Nat.one_le_div_iff hb).mpr (by omega)
      have h4 : b ≤ b * (a / b) := Nat.le_mul_of_pos_right b h3
      omega
    have := siz_half h2
    rw [if_neg h, if_neg (by omega)]
    omega
end Mp

/-! MpQ: sizes, numbers as pairs in lowest terms. -/
namespace Mp
open PySem
theorem siz_mono {a b : Nat} (h : a ≤ b) : siz a ≤ siz b := by
  unfold siz
  split
  · omega
  · rename_i ha
    rw [if_neg (by omega)]
    have : a.log2 ≤ b.log2 := (Nat.le_log2 (by omega)).mpr (Nat.le_trans (Nat.log2_self_le ha) h)
    omega
theorem lt_siz (n : Nat) : n < 2 ^ siz n := by
  unfold siz
  split
  · rename_i h; subst h; decide
  · rename_i h; exact Nat.lt_log2_self
theorem siz_mul (a b : Nat) : siz (a * b) ≤ siz a + siz b := by
  refine siz_lt ?_
  rw [Nat.pow_add]
  by_cases h : a = 0
  · subst h; simp; exact Nat.mul_pos (Nat.two_pow_pos _) (Nat.two_pow_pos _)
  · exact Nat.mul_lt_mul'' (lt_siz a) (lt_siz b)
theorem siz_add {a b k : Nat} (ha : siz a ≤ k) (hb : siz b ≤ k) : siz (a + b) ≤ k + 1 := by
  refine siz_lt ?_
  have h1 := Nat.lt_of_lt_of_le (lt_siz a) (Nat.pow_le_pow_right (by decide) ha)
  have h2 := Nat.lt_of_lt_of_le (lt_siz b) (Nat.pow_le_pow_right (by decide) hb)
  rw [Nat.pow_succ]; omega
theorem log_siz (n : Nat) : n.log2 ≤ siz n := by
  unfold siz
  split
  · rename_i h; subst h; decide
  · omega
/-- the size of an integer -/
abbrev sz (i : Int) : Nat := siz i.natAbs
theorem sz_mul (a b : Int) : sz (a * b) ≤ sz a + sz b := by
  unfold sz; rw [Int.natAbs_mul]; exact siz_mul _ _
theorem sz_add {a b : Int} {k : Nat} (ha : sz a ≤ k) (hb : sz b ≤ k) : sz (a + b) ≤ k + 1 := Nat.le_trans (siz_mono (Int.natAbs_add_le a b)) (siz_add ha hb)
theorem sz_neg (a : Int) : sz (-a) = sz a := by unfold sz; rw [Int.natAbs_neg]
theorem sz_sub {a b : Int} {k : Nat} (ha : sz a ≤ k) (hb : sz b ≤ k) : sz (a - b) ≤ k + 1 := by
  rw [Int.sub_eq_add_neg]; exact sz_add ha (by rw [sz_neg]; exact hb)
theorem eu_small {a b : Nat} (ha : siz a ≤ 100000) (hb : siz b ≤ 100000) : euM a b < fuel := by
  unfold euM fuel
  split <;> omega
theorem ok_mul {a b : Int} (ha : sz a ≤ 400000) (hb : sz b ≤ 400000) : okMul a b = true := by
  unfold okMul
  have h1 := log_siz a.natAbs
  have h2 := log_siz b.natAbs
  unfold sz at ha hb
  exact decide_eq_true (by omega)
theorem no_pylong {a b : Int} (hb : sz b ≤ 8000) : Builtin.divisionGoesByPylong a b = false := by
  have h2 := log_siz b.natAbs
  unfold sz at hb
  unfold Builtin.divisionGoesByPylong
  dsimp only
  have h3 : (if b == 0 then 0 else b.natAbs.log2 / 30 + 1) ≤ 300 := by
    split
    · omega
    · omega
  rw [decide_eq_false (by omega), Bool.false_and]
/-- a fraction as the program has it -/
def qv (r : Rat) : PV := .tup [.int r.num, .int r.den]
structure QB (k : Nat) (r : Rat) : Prop where
  n : sz r.num ≤ k
  d : siz r.den ≤ k
theorem gcd_pos {a b : Int} (hb : b ≠ 0) : 0 < Int.gcd a b := Nat.pos_of_ne_zero fun e => hb (Int.eq_zero_of_gcd_eq_zero_right e)
theorem num_pos {a b : Int} (hb : 0 < b) : (Rat.divInt a b).num = a / (Int.gcd a b : Int) := by
  rw [Rat.num_divInt, Int.sign_eq_one_of_pos hb, Int.one_mul, Int.gcd_comm]
theorem den_pos {a b : Int} (hb : 0 < b) : ((Rat.divInt a b).den : Int) = b / (Int.gcd a b : Int) := by
  rw [Rat.den_divInt, if_neg (by omega), Int.gcd_comm, Int.natCast_ediv, Int.natAbs_of_nonneg (by omega)]
theorem div_flip (a b : Int) : Rat.divInt a b = Rat.divInt (-a) (-b) := by
  by_cases hb : b = 0
  · subst hb; simp
  · exact (Rat.divInt_eq_divInt_iff hb (by omega)).mpr (by rw [Int.mul_neg, Int.neg_mul])
theorem sz_div (a : Int) (g : Int) : sz (a / g) ≤ sz a := siz_mono (Int.natAbs_ediv_le_natAbs a g)
theorem qb_div {a b : Int} {k : Nat} (ha : sz a ≤ k) (hb : sz b ≤ k) (h0 : b ≠ 0) : QB k (Rat.divInt a b) := by
  constructor
  · rw [Rat.num_divInt]
    refine Nat.le_trans (siz_mono ?_) ha
    refine Nat.le_trans (Int.natAbs_ediv_le_natAbs _ _) ?_
    rw [Int.natAbs_mul, Int.natAbs_sign_of_ne_zero h0, Nat.one_mul]
    exact Nat.le_refl _
  · rw [Rat.den_divInt, if_neg h0]
    exact Nat.le_trans (siz_mono (Nat.div_le_self _ _)) hb
theorem qb_add {r s : Rat} {k l : Nat} (hr : QB k r) (hs : QB l s) : QB (k + l + 1) (r + s) := by
  have e : r + s = Rat.divInt (r.num * s.den + s.num * r.den) (r.den * s.den) := by
    conv => lhs; rw [← Rat.num_divInt_den r, ← Rat.num_divInt_den s]
    exact Rat.divInt_add_divInt _ _ (by have := r.den_nz; omega) (by have := s.den_nz; omega)
  rw [e]
  refine qb_div (sz_add ?_ ?_) ?_ ?_
  · exact Nat.le_trans (sz_mul _ _) (Nat.add_le_add hr.n hs.d)
  · refine Nat.le_trans (sz_mul _ _) ?_
    have := hs.n; have := hr.d
    show sz s.num + siz r.den ≤ _
    omega
  · refine Nat.le_trans (sz_mul _ _) ?_
    have := hs.d; have := hr.d
    show siz r.den + siz s.den ≤ _
    omega
  · have := r.den_nz; have := s.den_nz
    exact Int.mul_ne_zero (by omega) (by omega)
theorem qb_mul {r s : Rat} {k l : Nat} (hr : QB k r) (hs : QB l s) : QB (k + l) (r * s) := by
  have e : r * s = Rat.divInt (r.num * s.num) (r.den * s.den) := by
    conv => lhs; rw [← Rat.num_divInt_den r, ← Rat.num_divInt_den s]
    exact Rat.divInt_mul_divInt _ _
  rw [e]
  refine qb_div ?_ ?_ ?_
  · exact Nat.le_trans (sz_mul _ _) (Nat.add_le_add hr.n hs.n)
  · exact Nat.le_trans (sz_mul _ _) (Nat.add_le_add hr.d hs.d)
  · have := r.den_nz; have := s.den_nz
    exact Int.mul_ne_zero (by omega) (by omega)
theorem qb_neg {r : Rat} {k : Nat} (hr : QB k r) : QB k (-r) := ⟨by rw [Rat.neg_num, sz_neg]; exact hr.n, by rw [Rat.neg_den]; exact hr.d⟩
theorem QB.mono {r : Rat} {k l : Nat} (h : QB k r) (hl : k ≤ l) : QB l r := ⟨Nat.le_trans h.n hl, Nat.le_trans h.d hl⟩
end Mp
namespace Mp
open PySem
theorem rat_add (r s : Rat) : Rat.divInt (r.num * s.den + s.num * r.den) (r.den * s.den) = r + s := by
  conv => rhs; rw [← Rat.num_divInt_den r, ← Rat.num_divInt_den s]
  exact (Rat.divInt_add_divInt _ _ (by have := r.den_nz; omega) (by have := s.den_nz; omega)).symm
theorem rat_mul (r s : Rat) : Rat.divInt (r.num * s.num) (r.den * s.den) = r * s := by
  conv => rhs; rw [← Rat.num_divInt_den r, ← Rat.num_divInt_den s]
  exact (Rat.divInt_mul_divInt _ _).symm
theorem rat_sub (r s : Rat) : Rat.divInt (r.num * s.den - s.num * r.den) (r.den * s.den) = r - s := by
  have := rat_add r (-s)
  rw [Rat.neg_num, Rat.neg_den, Int.neg_mul, ← Int.sub_eq_add_neg] at this
  rw [this, Rat.sub_eq_add_neg]
theorem rat_div (r s : Rat) (h : s ≠ 0) : Rat.divInt (r.num * s.den) (r.den * s.num) = r / s := by
  have h1 : s.num ≠ 0 := fun e => h (Rat.num_eq_zero.mp e)
  rw [Rat.div_def, Rat.inv_def]
  conv => rhs; rw [← Rat.num_divInt_den r]
  exact (Rat.divInt_mul_divInt _ _).symm
theorem qv_one (a : Int) : qv (Rat.divInt a 1) = .tup [.int a, .int 1] := by
  have h1 := num_pos (a := a) (b := 1) (by decide)
  have h2 := den_pos (a := a) (b := 1) (by decide)
  unfold qv
  rw [h1, h2]
  simp
theorem qv_inj {r s : Rat} : (qv r).eqv (qv s) = decide (r = s) := by
  by_cases h : r = s
  · subst h; simp [qv, PV.eqv, PV.eqvL]
  · rw [decide_eq_false h]
    simp only [qv, PV.eqv, PV.eqvL, Bool.and_true, Bool.and_eq_false_iff, decide_eq_false_iff_not]
    by_cases h2 : r.num = s.num
    · right
      intro h3
      exact h (Rat.ext h2 (by omega))
    · exact .inl h2
theorem qv_dat (r : Rat) : (qv r).dat 20 = true := by simp [qv, PV.dat, PV.isd, PV.isdL, PV.dep, PV.depL]
@[simp high] theorem q_sub0 (r : Rat) : subV (qv r) (.int 0) = some (.int r.num) := rfl
@[simp high] theorem q_sub1 (r : Rat) : subV (qv r) (.int 1) = some (.int r.den) := rfl
@[simp high] theorem q_eq (r s : Rat) : cmpV .Eq (qv r) (qv s) = some (decide (r = s)) := by
  show (if (qv r).dat 20 && (qv s).dat 20 then some ((qv r).eqv (qv s)) else none) = _
  rw [qv_dat, qv_dat, qv_inj]; rfl
@[simp high] theorem q_ne (r s : Rat) : cmpV .NotEq (qv r) (qv s) = some (!decide (r = s)) := by
  show (if (qv r).dat 20 && (qv s).dat 20 then some (!(qv r).eqv (qv s)) else none) = _
  rw [qv_dat, qv_dat, qv_inj]; rfl
@[simp high] theorem q_isi (r : Rat) : isiV (qv r) "tuple" = some true := rfl
@[simp high] theorem q_len (r : Rat) : biV .len [qv r] = some (.val (.int 2)) := rfl
@[simp high] theorem q_it (r : Rat) : itV .val [qv r] = some [.int r.num, .int r.den] := rfl
theorem den_pos' (r : Rat) : (0 : Int) < r.den := by have := r.den_nz; omega
theorem den_ne (r : Rat) : ¬ ((r.den : Int) = 0) := by have := r.den_nz; omega
end Mp
namespace Mp
open PySem
theorem log_lt {i : Int} (h : sz i ≤ 1900) : i.natAbs.log2 < 1920 := by
  have := log_siz i.natAbs
  unfold sz at h
  omega
theorem int_shown (i : Int) (h : sz i ≤ 1900) : (PyData.int i).shown.length ≤ 1921 := PyProof.Rows.int_text_len_1921 (log_lt h)
theorem q_shown {r : Rat} (h : QB 1900 r) : (qv r).toD.shown.length ≤ 4000 ∧ (qv r).toD.showable = true := by
  constructor
  · have h1 := int_shown r.num h.n
    have h2 := int_shown (r.den : Int) h.d
    have := PySem.tupleText_len_le [(PyData.int r.num).shown, (PyData.int r.den).shown]
    simp only [List.map_cons, List.map_nil, List.sum_cons, List.sum_nil, List.length_cons, List.length_nil] at this
    show (PySem.tupleText [(PyData.int r.num).shown, (PyData.int r.den).shown]).length ≤ 4000
    omega
  · simp [qv, PV.toD, PV.toDs, PyData.showable, PyData.showableAll, log_lt h.n, log_lt (i := (r.den : Int)) h.d]
    exact log_lt (i := (r.den : Int)) h.d
theorem repr_q {r : Rat} (h : QB 1900 r) : biV .repr [qv r] = some (.val (.str (qv r).toD.shown)) := by
  obtain ⟨h1, h2⟩ := q_shown h
  rw [bi_repr, qv_dat, h2, decide_eq_true (show (qv r).toD.shown.length ≤ line by unfold line; omega)]
  rfl
theorem repr_qs {rs : List Rat} (h : ∀ r ∈ rs, QB 1900 r) (hl : rs.length ≤ 100) : biV .repr [.lst (rs.map qv)] = some (.val (.str (PV.lst (rs.map qv)).toD.shown)) := by
  have a1 : ∀ rs : List Rat, PV.isdL (rs.map qv) = true ∧ PV.depL (rs.map qv) ≤ 1 := fun rs => by
    induction rs with
    | nil => exact ⟨rfl, Nat.zero_le _⟩
    | cons r rs ih =>
      constructor
      · simp only [List.map_cons, PV.isdL, ih.1, Bool.and_true]; rfl
      · simp only [List.map_cons, PV.depL]
        exact Nat.max_le.mpr ⟨by simp [qv, PV.dep, PV.depL], ih.2⟩
  have a2 : ∀ rs : List Rat, (∀ r ∈ rs, QB 1900 r) → PyData.showableAll (PV.toDs (rs.map qv)) = true ∧ ((PyData.shownAll (PV.toDs (rs.map qv))).map (·.length)).sum ≤ 4000 * rs.length ∧ (PyData.shownAll (PV.toDs (rs.map qv))).length = rs.length := fun rs => by
    induction rs with
    | nil => intro _; exact ⟨rfl, Nat.le_refl _, rfl⟩
    | cons r rs ih =>
      intro h
      obtain ⟨h1, h2⟩ := q_shown (h r (by simp))
      obtain ⟨i1, i2, i3⟩ := ih fun x hx => h x (by simp [hx])
      refine ⟨?_, ?_, ?_⟩
      · simp only [List.map_cons, PV.toDs, PyData.showableAll, h2, i1, Bool.and_self]
      · simp only [List.map_cons, PV.toDs, PyData.shownAll, List.sum_cons, List.length_cons]
        omega
      · simp only [List.map_cons, PV.toDs, PyData.shownAll, List.length_cons, i3]
  obtain ⟨b1, b2, b3⟩ := a2 rs h
  have c := PySem.listText_len_le (PyData.shownAll (PV.toDs (rs.map qv)))
  have e1 : (PV.lst (rs.map qv)).dat 20 = true := by
    unfold PV.dat
    rw [show (PV.lst (rs.map qv)).isd = PV.isdL (rs.map qv) from rfl, (a1 rs).1, Bool.true_and]
    refine decide_eq_true ?_
    show PV.depL (rs.map qv) + 1 ≤ 20
    have := (a1 rs).2
    omega
  have e2 : (PV.lst (rs.map qv)).toD.showable = true := b1
  have e3 : (PV.lst (rs.map qv)).toD.shown.length ≤ line := by
    show (PySem.listText (PyData.shownAll (PV.toDs (rs.map qv)))).length ≤ line
    unfold line
    omega
  rw [bi_repr, e1, e2, decide_eq_true e3]
  rfl
end Mp

namespace K21
open PySem Mp
def c_MAX_COUNT : PV := (.int 60)
def c_MOST_PASSED : PV := (.int 10000000000000000000000000000000000000000)
def c_NOUGHT : PV := (.tup [(.int 0), (.int 1)])
def c_ONE : PV := (.tup [(.int 1), (.int 1)])
/-- is_integer -/
def b_is_integer : List CS := [
  .ret (.and (.bui .isi [(.bor 0), (.cst (.ty "int"))]) (.not (.bui .isi [(.bor 0), (.cst (.ty "bool"))])))]
def d_is_integer : Fd := ⟨"is_integer", ["value"], 1, [], [], b_is_integer⟩
/-- common_divisor -/
def b_common_divisor : List CS := [
  .par [0, 1] [(.bui .abs [(.bor 0)]), (.bui .abs [(.bor 1)])],
  .whl (.cmp .Gt (.bor 1) (.cst (.int 0))) [.par [0, 1] [(.var 1), (.bin .Mod (.bor 0) (.bor 1))]],
  .ret (.bor 0)]
def d_common_divisor : Fd := ⟨"common_divisor", ["one", "other"], 2, [], [], b_common_divisor⟩
/-- is_number -/
def b_is_number : List CS := [
  .ite (.orT (.notT (.tru (.bui .isi [(.bor 0), (.cst (.ty "tuple"))]))) (.orT (.cmp .NotEq (.bui .len [(.bor 0)]) (.cst (.int 2))) (.notT (.tru (.bui .all [(.lc [1] (.nm 1) .val [(.var 0)] [] (.cal 0 [(.var 1)]))]))))) [.ret
    (.cst (.bl false))] [],
  .ret (.and (.cmp .GtE (.sub (.bor 0) (.cst (.int 1))) (.cst (.int 1))) (.cmp .Eq (.cal 1 [(.sub (.bor 0) (.cst (.int 0))), (.sub (.bor 0) (.cst (.int 1)))]) (.cst (.int 1))))]
def d_is_number : Fd := ⟨"is_number", ["value", "one"], 1, [], [], b_is_number⟩
/-- reduced -/
def b_reduced : List CS := [
  .ite (.cmp .Lt (.bor 1) (.cst (.int 0))) [.par [0, 1] [(.bin .Sub (.cst (.int 0)) (.bor 0)), (.bin .Sub (.cst (.int 0)) (.bor 1))]] [],
  .asg (.nm 2) (.cal 1 [(.var 0), (.var 1)]),
  .ret (.tup [(.bin .FloorDiv (.bor 0) (.bor 2)), (.bin .FloorDiv (.bor 1) (.bor 2))])]
def d_reduced : Fd := ⟨"reduced", ["top", "bottom", "divisor"], 2, [], [], b_reduced⟩
/-- number -/
def b_number : List CS := [
  .ite (.orT (.notT (.tru (.cal 0 [(.var 0)]))) (.cmp .GtE (.bui .abs [(.bor 0)]) (.cst c_MOST_PASSED))) [.ded] [],
  .ite (.orT (.notT (.tru (.cal 0 [(.var 1)]))) (.orT (.cmp .GtE (.bui .abs [(.bor 1)]) (.cst c_MOST_PASSED)) (.cmp .Eq (.bor 1) (.cst (.int 0))))) [.ded] [],
  .ret (.cal 3 [(.var 0), (.var 1)])]
def d_number : Fd := ⟨"number", ["top", "bottom"], 2, [(.int 1)], [], b_number⟩
/-- require_number -/
def b_require_number : List CS := [
  .ite (.notT (.tru (.cal 2 [(.var 0)]))) [.ded] []]
def d_require_number : Fd := ⟨"require_number", ["value"], 1, [], [], b_require_number⟩
/-- require_count -/
def b_require_count : List CS := [
  .ite (.orT (.notT (.tru (.cal 0 [(.var 0)]))) (.notT (.chn .LtE .LtE (.var 1) (.var 0) (.var 2)))) [.ded] []]
def d_require_count : Fd := ⟨"require_count", ["value", "least", "most"], 3, [(.int 0), (.int 60)], [], b_require_count⟩
/-- added -/
def b_added : List CS := [
  .ite (.chn .Eq .Eq (.sub (.bor 0) (.cst (.int 1))) (.sub (.bor 1) (.cst (.int 1))) (.cst (.int 1))) [.ret (.tup [(.bin .Add (.sub (.bor 0) (.cst (.int 0))) (.sub (.bor 1) (.cst (.int 0)))), (.cst (.int 1))])] [],
  .ret (.cal 3 [(.bin .Add (.bin .Mult (.sub (.bor 0) (.cst (.int 0))) (.sub (.bor 1) (.cst (.int 1)))) (.bin .Mult (.sub (.bor 1) (.cst (.int 0))) (.sub (.bor 0) (.cst (.int 1))))), (.bin .Mult (.sub (.bor 0) (.cst (.int 1)))
    (.sub (.bor 1) (.cst (.int 1))))])]
def d_added : Fd := ⟨"added", ["one", "other"], 2, [], [], b_added⟩
/-- multiplied -/
def b_multiplied : List CS := [
  .ite (.chn .Eq .Eq (.sub (.bor 0) (.cst (.int 1))) (.sub (.bor 1) (.cst (.int 1))) (.cst (.int 1))) [.ret (.tup [(.bin .Mult (.sub (.bor 0) (.cst (.int 0))) (.sub (.bor 1) (.cst (.int 0)))), (.cst (.int 1))])] [],
  .ret (.cal 3 [(.bin .Mult (.sub (.bor 0) (.cst (.int 0))) (.sub (.bor 1) (.cst (.int 0)))), (.bin .Mult (.sub (.bor 0) (.cst (.int 1))) (.sub (.bor 1) (.cst (.int 1))))])]
def d_multiplied : Fd := ⟨"multiplied", ["one", "other"], 2, [], [], b_multiplied⟩
/-- opposite -/
def b_opposite : List CS := [
  .ret (.tup [(.bin .Sub (.cst (.int 0)) (.sub (.bor 0) (.cst (.int 0)))), (.sub (.bor 0) (.cst (.int 1)))])]
def d_opposite : Fd := ⟨"opposite", ["one"], 1, [], [], b_opposite⟩
/-- divided -/
def b_divided : List CS := [
  .ret (.cal 3 [(.bin .Mult (.sub (.bor 0) (.cst (.int 0))) (.sub (.bor 1) (.cst (.int 1)))), (.bin .Mult (.sub (.bor 0) (.cst (.int 1))) (.sub (.bor 1) (.cst (.int 0))))])]
def d_divided : Fd := ⟨"divided", ["one", "other"], 2, [], [], b_divided⟩
/-- sum_of -/
def b_sum_of : List CS := [
  .asg (.nm 1) (.cst c_NOUGHT),
  .fro (.nm 2) .val [(.var 0)] [.asg (.nm 1) (.cal 7 [(.var 1), (.var 2)])],
  .ret (.bor 1)]
def d_sum_of : Fd := ⟨"sum_of", ["numbers", "found", "one"], 1, [], [], b_sum_of⟩
/-- plus -/
def b_plus : List CS := [
  .exp (.cal 5 [(.var 0)]),
  .exp (.cal 5 [(.var 1)]),
  .ret (.cal 7 [(.var 0), (.var 1)])]
def d_plus : Fd := ⟨"plus", ["one", "other"], 2, [], [], b_plus⟩
/-- minus -/
def b_minus : List CS := [
  .exp (.cal 5 [(.var 0)]),
  .exp (.cal 5 [(.var 1)]),
  .ret (.cal 7 [(.var 0), (.cal 9 [(.var 1)])])]
def d_minus : Fd := ⟨"minus", ["one", "other"], 2, [], [], b_minus⟩
/-- times -/
def b_times : List CS := [
  .exp (.cal 5 [(.var 0)]),
  .exp (.cal 5 [(.var 1)]),
  .ret (.cal 8 [(.var 0), (.var 1)])]
def d_times : Fd := ⟨"times", ["one", "other"], 2, [], [], b_times⟩
/-- over -/
def b_over : List CS := [
  .exp (.cal 5 [(.var 0)]),
  .exp (.cal 5 [(.var 1)]),
  .ite (.cmp .Eq (.bor 1) (.cst c_NOUGHT)) [.ded] [],
  .ret (.cal 10 [(.var 0), (.var 1)])]
def d_over : Fd := ⟨"over", ["one", "other"], 2, [], [], b_over⟩
/-- compared -/
def b_compared : List CS := [
  .exp (.cal 5 [(.var 0)]),
  .exp (.cal 5 [(.var 1)]),
  .par [2, 3] [(.bin .Mult (.sub (.bor 0) (.cst (.int 0))) (.sub (.bor 1) (.cst (.int 1)))), (.bin .Mult (.sub (.bor 1) (.cst (.int 0))) (.sub (.bor 0) (.cst (.int 1))))],
  .ret (.bin .Sub (.bui .int [(.cmp .Gt (.bor 2) (.bor 3))]) (.bui .int [(.cmp .Lt (.bor 2) (.bor 3))]))]
def d_compared : Fd := ⟨"compared", ["one", "other", "left", "right"], 2, [], [], b_compared⟩
/-- total -/
def b_total : List CS := [
  .ite (.orT (.notT (.tru (.bui .isi [(.bor 0), (.cst (.ty "tuple"))]))) (.notT (.tru (.bui .all [(.lc [1] (.nm 1) .val [(.var 0)] [] (.cal 2 [(.var 1)]))])))) [.ded] [],
  .ret (.cal 11 [(.var 0)])]
def d_total : Fd := ⟨"total", ["numbers", "one"], 1, [], [], b_total⟩
/-- power -/
def b_power : List CS := [
  .exp (.cal 5 [(.var 0)]),
  .exp (.cal 6 [(.var 1)]),
  .asg (.nm 2) (.cst c_ONE),
  .fro (.nm 3) .rng [(.var 1)] [.asg (.nm 2) (.cal 8 [(.var 2), (.var 0)])],
  .ret (.bor 2)]
def d_power : Fd := ⟨"power", ["one", "many", "found", "_"], 2, [], [], b_power⟩
/-- _law_dice -/
def b_law_dice : List CS := [
  .asg (.nm 2) (.ife (.cmp .Lt (.bor 1) (.bui .len [(.bor 0)])) (.bui .int [(.sub (.bor 0) (.var 1))]) (.bin .Add (.bin .Mult (.cst (.int 131)) (.bor 1)) (.cst (.int 37)))),
  .asg (.nm 3) (.bin .Mod (.bui .int [(.bui .abs [(.bor 2)])]) (.bin .Pow (.bin .Pow (.cst (.int 10)) (.cst (.int 53))) (.cst (.int 6)))),
  .asg (.nm 4) (.bin .Add (.bin .Add (.bin .Add (.bin .Mult (.bin .Mod (.bor 3) (.cst (.int 2305843009213693907))) (.cst (.int 73))) (.bin .Mult (.cst (.int 619)) (.bor 1))) (.bin .Mult (.cst (.int 41)) (.bui .int [(.cmp .Lt
    (.bor 2) (.cst (.int 0)))]))) (.cst (.int 17))),
  .ret (.lst [(.bui .max [(.cst (.int 0)), (.bin .Sub (.bor 3) (.bin .Pow (.cst (.int 10)) (.cst (.int 16))))]), (.var 4), (.cst (.int 0))])]
def d_law_dice : Fd := ⟨"_law_dice", ["script", "spot", "cell", "great", "seed"], 2, [], [], b_law_dice⟩
/-- _law_roll -/
def b_law_roll : List CS := [
  .ite (.cmp .Gt (.sub (.bor 0) (.cst (.int 0))) (.cst (.int 0))) [.asg (.nm 2) (.bin .Mod (.sub (.bor 0) (.cst (.int 0))) (.bor 1)), .set 0 (.cst (.int 0)) (.bin .FloorDiv (.sub (.bor 0) (.cst (.int 0))) (.bor 1)), .ret (.bui
    .int [(.bor 2)])] [],
  .set 0 (.cst (.int 2)) (.bin .Add (.sub (.bor 0) (.cst (.int 2))) (.cst (.int 1))),
  .asg (.nm 3) (.bin .Mod (.bin .Add (.sub (.bor 0) (.cst (.int 1))) (.bin .Mult (.cst (.int 49979687)) (.sub (.bor 0) (.cst (.int 2))))) (.cst (.int 2305843009213693951))),
  .asg (.nm 4) (.bin .Add (.bin .Mult (.bin .Mod (.bin .Add (.bin .Mult (.bor 3) (.bor 3)) (.bin .Mult (.cst (.int 131)) (.sub (.bor 0) (.cst (.int 2))))) (.cst (.int 2305843009213693921))) (.cst (.int 32452843))) (.bor 3)),
  .ret (.bin .Mod (.bui .int [(.bin .FloorDiv (.bor 4) (.cst (.int 65587)))]) (.bor 1))]
def d_law_roll : Fd := ⟨"_law_roll", ["dice", "many", "found", "one", "two"], 2, [], [0], b_law_roll⟩
/-- _law_pick -/
def b_law_pick : List CS := [
  .ret (.sub (.bor 1) (.cal 20 [(.bor 0), (.bui .len [(.bor 1)])]))]
def d_law_pick : Fd := ⟨"_law_pick", ["dice", "items"], 2, [], [0], b_law_pick⟩
/-- _law_fr -/
def b_law_fr : List CS := [
  .par [2, 3] [(.bui .abs [(.bor 0)]), (.bui .abs [(.bor 1)])],
  .whl (.cmp .Gt (.bor 3) (.cst (.int 0))) [.par [2, 3] [(.var 3), (.bin .Mod (.bor 2) (.bor 3))]],
  .asg (.nm 4) (.ife (.cmp .Lt (.bor 1) (.cst (.int 0))) (.neg (.cst (.int 1))) (.cst (.int 1))),
  .ret (.tup [(.bin .FloorDiv (.bin .Mult (.bor 4) (.bor 0)) (.bor 2)), (.bin .FloorDiv (.bin .Mult (.bor 4) (.bor 1)) (.bor 2))])]
def d_law_fr : Fd := ⟨"_law_fr", ["top", "bottom", "one", "other", "sign"], 2, [], [], b_law_fr⟩
/-- _law_plus -/
def b_law_plus : List CS := [
  .ret (.cal 22 [(.bin .Add (.bin .Mult (.sub (.bor 0) (.cst (.int 0))) (.sub (.bor 1) (.cst (.int 1)))) (.bin .Mult (.sub (.bor 1) (.cst (.int 0))) (.sub (.bor 0) (.cst (.int 1))))), (.bin .Mult (.sub (.bor 0) (.cst (.int
    1))) (.sub (.bor 1) (.cst (.int 1))))])]
def d_law_plus : Fd := ⟨"_law_plus", ["one", "other"], 2, [], [], b_law_plus⟩
/-- _law_times -/
def b_law_times : List CS := [
  .ret (.cal 22 [(.bin .Mult (.sub (.bor 0) (.cst (.int 0))) (.sub (.bor 1) (.cst (.int 0)))), (.bin .Mult (.sub (.bor 0) (.cst (.int 1))) (.sub (.bor 1) (.cst (.int 1))))])]
def d_law_times : Fd := ⟨"_law_times", ["one", "other"], 2, [], [], b_law_times⟩
/-- _law_minus -/
def b_law_minus : List CS := [
  .ret (.cal 22 [(.bin .Sub (.bin .Mult (.sub (.bor 0) (.cst (.int 0))) (.sub (.bor 1) (.cst (.int 1)))) (.bin .Mult (.sub (.bor 1) (.cst (.int 0))) (.sub (.bor 0) (.cst (.int 1))))), (.bin .Mult (.sub (.bor 0) (.cst (.int
    1))) (.sub (.bor 1) (.cst (.int 1))))])]
def d_law_minus : Fd := ⟨"_law_minus", ["one", "other"], 2, [], [], b_law_minus⟩
/-- _law_integer -/
def b_law_integer : List CS := [
  .asg (.nm 1) (.cal 21 [(.bor 0), (.lst [(.cst (.int 10)), (.cst (.int 10)), (.cst (.int 10)), (.cst (.int 100)), (.bin .Pow (.cst (.int 10)) (.cst (.int 6))), (.bin .Pow (.cst (.int 10)) (.cst (.int 19)))])]),
  .ret (.bin .Mult (.bin .Add (.cst (.int 1)) (.cal 20 [(.bor 0), (.var 1)])) (.cal 21 [(.bor 0), (.lst [(.cst (.int 1)), (.neg (.cst (.int 1)))])]))]
def d_law_integer : Fd := ⟨"_law_integer", ["dice", "bound"], 1, [], [0], b_law_integer⟩
/-- _law_drawn -/
def b_law_drawn : List CS := [
  .ite (.cmp .Eq (.cal 20 [(.bor 0), (.cst (.int 6))]) (.cst (.int 0))) [.ret (.tup [(.cst (.int 0)), (.cst (.int 1))])] [],
  .ret (.cal 22 [(.cal 26 [(.bor 0)]), (.bui .abs [(.cal 26 [(.bor 0)])])])]
def d_law_drawn : Fd := ⟨"_law_drawn", ["dice"], 1, [], [0], b_law_drawn⟩
/-- _law_right -/
def b_law_right : List CS := [
  .par [1, 2, 3] [(.cal 27 [(.bor 0)]), (.cal 27 [(.bor 0)]), (.cal 27 [(.bor 0)])],
  .asg (.nm 4) (.lst [(.cal 12 [(.var 1), (.var 2)]), (.cal 13 [(.var 1), (.var 2)]), (.cal 14 [(.var 1), (.var 2)]), (.cal 12 [(.cal 13 [(.var 1), (.var 2)]), (.var 2)])]),
  .ite (.cmp .NotEq (.bui .repr [(.bor 4)]) (.bui .repr [(.lst [(.cal 23 [(.var 1), (.var 2)]), (.cal 25 [(.var 1), (.var 2)]), (.cal 24 [(.var 1), (.var 2)]), (.var 1)])])) [.ret (.cst (.bl false))] [],
  .ite (.cmp .NotEq (.sub (.bor 2) (.cst (.int 0))) (.cst (.int 0))) [.asg (.nm 5) (.cal 22 [(.bin .Mult (.sub (.bor 1) (.cst (.int 0))) (.sub (.bor 2) (.cst (.int 1)))), (.bin .Mult (.sub (.bor 1) (.cst (.int 1))) (.sub (.bor
    2) (.cst (.int 0))))]), .ite (.orT (.cmp .NotEq (.bui .repr [(.cal 15 [(.var 1), (.var 2)])]) (.bui .repr [(.bor 5)])) (.cmp .NotEq (.cal 14 [(.cal 15 [(.var 1), (.var 2)]), (.var 2)]) (.bor 1))) [.ret (.cst (.bl false))]
    []] [],
  .par [6, 7] [(.bin .Mult (.sub (.bor 1) (.cst (.int 0))) (.sub (.bor 2) (.cst (.int 1)))), (.bin .Mult (.sub (.bor 2) (.cst (.int 0))) (.sub (.bor 1) (.cst (.int 1))))],
  .ite (.orT (.cmp .NotEq (.cal 16 [(.var 1), (.var 2)]) (.bin .Sub (.bui .int [(.cmp .Gt (.bor 6) (.bor 7))]) (.bui .int [(.cmp .Lt (.bor 6) (.bor 7))]))) (.cmp .NotEq (.cal 16 [(.var 1), (.var 1)]) (.cst (.int 0)))) [.ret
    (.cst (.bl false))] [],
  .ite (.cmp .NotEq (.cal 14 [(.cal 12 [(.var 1), (.var 2)]), (.var 3)]) (.cal 12 [(.cal 14 [(.var 1), (.var 3)]), (.cal 14 [(.var 2), (.var 3)])])) [.ret (.cst (.bl false))] [],
  .par [8, 5] [(.lc [9] (.nm 9) .rng [(.cal 20 [(.bor 0), (.cst (.int 6))])] [] (.cal 27 [(.bor 0)])), (.tup [(.cst (.int 0)), (.cst (.int 1))])],
  .fro (.nm 10) .val [(.var 8)] [.asg (.nm 5) (.cal 23 [(.var 5), (.var 10)])],
  .ite (.orT (.cmp .NotEq (.cal 17 [(.bui .tuple [(.bor 8)])]) (.bor 5)) (.cmp .NotEq (.cal 17 [(.bui .tuple [(.rev (.bor 8))])]) (.bor 5))) [.ret (.cst (.bl false))] [],
  .par [11, 5] [(.cal 20 [(.bor 0), (.cst (.int 7))]), (.tup [(.cst (.int 1)), (.cst (.int 1))])],
  .fro (.nm 9) .rng [(.var 11)] [.asg (.nm 5) (.cal 24 [(.var 5), (.var 1)])],
  .ite (.orT (.cmp .NotEq (.cal 18 [(.var 1), (.var 11)]) (.bor 5)) (.cmp .NotEq (.cal 18 [(.var 1), (.cst (.int 0))]) (.tup [(.cst (.int 1)), (.cst (.int 1))]))) [.ret (.cst (.bl false))] [],
  .par [12, 13] [(.cal 21 [(.bor 0), (.lst [(.cst (.int 0)), (.cal 26 [(.bor 0)])])]), (.cal 26 [(.bor 0)])],
  .ret (.and (.cmp .Eq (.cal 4 [(.var 12), (.var 13)]) (.cal 22 [(.var 12), (.var 13)])) (.cmp .Eq (.bui .repr [(.cal 4 [(.var 12)])]) (.bui .repr [(.tup [(.var 12), (.cst (.int 1))])])))]
def d_law_right : Fd := ⟨"_law_right", ["dice", "one", "other", "third", "told", "due", "left", "right", "row", "turn", "item", "many", "top", "bottom"], 1, [], [0], b_law_right⟩
/-- law -/
def b_law : List CS := [
  .fro (.nm 1) .rng [(.bui .max [(.cst (.int 1)), (.bui .min [(.cst (.int 6)), (.bui .len [(.bor 0)])])])] [.asg (.nm 2) (.cal 19 [(.var 0), (.var 1)]), .fro (.nm 3) .rng [(.cst (.int 3))] [.ite (.notT (.tru (.cal 28 [(.bor
    2)]))) [.ret (.cst (.bl false))] []]],
  .asg (.nm 4) (.tup [(.bin .Add (.bin .Pow (.cst (.int 10)) (.cst (.int 60))) (.cst (.int 1))), (.bin .Add (.bin .Pow (.cst (.int 10)) (.cst (.int 59))) (.cst (.int 3)))]),
  .asg (.nm 5) (.lst [(.cmp .Eq (.cal 12 [(.var 4), (.tup [(.cst (.int 1)), (.cst (.int 3))])]) (.cal 23 [(.var 4), (.tup [(.cst (.int 1)), (.cst (.int 3))])])), (.cmp .Eq (.cal 18 [(.tup [(.neg (.cst (.int 1))), (.cst (.int
    2))]), (.cst (.int 60))]) (.tup [(.cst (.int 1)), (.cst (.int 1152921504606846976))]))]),
  .asg (.nm 5) (.bin .Add (.bor 5) (.lst [(.cal 4 [(.bin .Pow (.cst (.int 10)) (.cst (.int 39))), (.neg (.bin .Pow (.cst (.int 10)) (.cst (.int 39))))]), (.cal 4 [(.neg (.cst (.int 6))), (.cst (.int 4))]), (.cal 17 [(.tup [])]),
    (.cal 16 [(.tup [(.neg (.cst (.int 1))), (.cst (.int 2))]), (.tup [(.neg (.cst (.int 1))), (.cst (.int 3))])])])),
  .ret (.cmp .Eq (.bor 5) (.lst [(.cst (.bl true)), (.cst (.bl true)), (.tup [(.neg (.cst (.int 1))), (.cst (.int 1))]), (.tup [(.neg (.cst (.int 3))), (.cst (.int 2))]), (.tup [(.cst (.int 0)), (.cst (.int 1))]), (.neg (.cst
    (.int 1)))]))]
def d_law : Fd := ⟨"law", ["script", "spot", "dice", "turn", "great", "told"], 1, [], [], b_law⟩
def rows : List Row := [
  ⟨10, d_is_integer, []⟩,
  ⟨11, d_common_divisor, []⟩,
  ⟨12, d_is_number, []⟩,
  ⟨13, d_reduced, []⟩,
  ⟨14, d_number, [.int (1)]⟩,
  ⟨15, d_require_number, []⟩,
  ⟨16, d_require_count, [.int (0), .int (60)]⟩,
  ⟨17, d_added, []⟩,
  ⟨18, d_multiplied, []⟩,
  ⟨19, d_opposite, []⟩,
  ⟨20, d_divided, []⟩,
  ⟨21, d_sum_of, []⟩,
  ⟨22, d_plus, []⟩,
  ⟨23, d_minus, []⟩,
  ⟨24, d_times, []⟩,
  ⟨25, d_over, []⟩,
  ⟨26, d_compared, []⟩,
  ⟨27, d_total, []⟩,
  ⟨28, d_power, []⟩,
  ⟨30, d_law_dice, []⟩,
  ⟨31, d_law_roll, []⟩,
  ⟨32, d_law_pick, []⟩,
  ⟨33, d_law_fr, []⟩,
  ⟨34, d_law_plus, []⟩,
  ⟨35, d_law_times, []⟩,
  ⟨36, d_law_minus, []⟩,
  ⟨37, d_law_integer, []⟩,
  ⟨38, d_law_drawn, []⟩,
  ⟨39, d_law_right, []⟩,
  ⟨40, d_law, []⟩]
def tb : Nat → Option Fd := tbOf rows
def T : Tb := ⟨tb, [("MAX_COUNT", c_MAX_COUNT), ("MOST_PASSED", c_MOST_PASSED), ("NOUGHT", c_NOUGHT), ("ONE", c_ONE)]⟩
@[simp] theorem tb_is_integer : tb 0 = some d_is_integer := rfl
@[simp] theorem np_is_integer : d_is_integer.np = 1 := rfl
@[simp] theorem nl_is_integer : d_is_integer.N.length = 1 := rfl
@[simp] theorem mp_is_integer : d_is_integer.mp = [] := rfl
@[simp] theorem df_is_integer : d_is_integer.dfl = [] := rfl
@[simp] theorem bo_is_integer : d_is_integer.body = b_is_integer := rfl
@[simp] theorem tb_common_divisor : tb 1 = some d_common_divisor := rfl
@[simp] theorem np_common_divisor : d_common_divisor.np = 2 := rfl
@[simp] theorem nl_common_divisor : d_common_divisor.N.length = 2 := rfl
@[simp] theorem mp_common_divisor : d_common_divisor.mp = [] := rfl
@[simp] theorem df_common_divisor : d_common_divisor.dfl = [] := rfl
@[simp] theorem bo_common_divisor : d_common_divisor.body = b_common_divisor := rfl
@[simp] theorem tb_is_number : tb 2 = some d_is_number := rfl
@[simp] theorem np_is_number : d_is_number.np = 1 := rfl
@[simp] theorem nl_is_number : d_is_number.N.length = 2 := rfl
@[simp] theorem mp_is_number : d_is_number.mp = [] := rfl
@[simp] theorem df_is_number : d_is_number.dfl = [] := rfl
@[simp] theorem bo_is_number : d_is_number.body = b_is_number := rfl
@[simp] theorem tb_reduced : tb 3 = some d_reduced := rfl
@[simp] theorem np_reduced : d_reduced.np = 2 := rfl
@[simp] theorem nl_reduced : d_reduced.N.length = 3 := rfl
@[simp] theorem mp_reduced : d_reduced.mp = [] := rfl
@[simp] theorem df_reduced : d_reduced.dfl = [] := rfl
@[simp] theorem bo_reduced : d_reduced.body = b_reduced := rfl
@[simp] theorem tb_number : tb 4 = some d_number := rfl
@[simp] theorem np_number : d_number.np = 2 := rfl
@[simp] theorem nl_number : d_number.N.length = 2 := rfl
@[simp] theorem mp_number : d_number.mp = [] := rfl
@[simp] theorem df_number : d_number.dfl = [(.int 1)] := rfl
@[simp] theorem bo_number : d_number.body = b_number := rfl
@[simp] theorem tb_require_number : tb 5 = some d_require_number := rfl
@[simp] theorem np_require_number : d_require_number.np = 1 := rfl
@[simp] theorem nl_require_number : d_require_number.N.length = 1 := rfl
@[simp] theorem mp_require_number : d_require_number.mp = [] := rfl
@[simp] theorem df_require_number : d_require_number.dfl = [] := rfl
@[simp] theorem bo_require_number : d_require_number.body = b_require_number := rfl
@[simp] theorem tb_require_count : tb 6 = some d_require_count := rfl
@[simp] theorem np_require_count : d_require_count.np = 3 := rfl
@[simp] theorem nl_require_count : d_require_count.N.length = 3 := rfl
@[simp] theorem mp_require_count : d_require_count.mp = [] := rfl
@[simp] theorem df_require_count : d_require_count.dfl = [(.int 0), (.int 60)] := rfl
@[simp] theorem bo_require_count : d_require_count.body = b_require_count := rfl
@[simp] theorem tb_added : tb 7 = some d_added := rfl
@[simp] theorem np_added : d_added.np = 2 := rfl
@[simp] theorem nl_added : d_added.N.length = 2 := rfl
@[simp] theorem mp_added : d_added.mp = [] := rfl
@[simp] theorem df_added : d_added.dfl = [] := rfl
@[simp] theorem bo_added : d_added.body = b_added := rfl
@[simp] theorem tb_multiplied : tb 8 = some d_multiplied := rfl
@[simp] theorem np_multiplied : d_multiplied.np = 2 := rfl
@[simp] theorem nl_multiplied : d_multiplied.N.length = 2 := rfl
@[simp] theorem mp_multiplied : d_multiplied.mp = [] := rfl
@[simp] theorem df_multiplied : d_multiplied.dfl = [] := rfl
@[simp] theorem bo_multiplied : d_multiplied.body = b_multiplied := rfl
@[simp] theorem tb_opposite : tb 9 = some d_opposite := rfl
@[simp] theorem np_opposite : d_opposite.np = 1 := rfl
@[simp] theorem nl_opposite : d_opposite.N.length = 1 := rfl
@[simp] theorem mp_opposite : d_opposite.mp = [] := rfl
@[simp] theorem df_opposite : d_opposite.dfl = [] := rfl
@[simp] theorem bo_opposite : d_opposite.body = b_opposite := rfl
@[simp] theorem tb_divided : tb 10 = some d_divided := rfl
@[simp] theorem np_divided : d_divided.np = 2 := rfl
@[simp] theorem nl_divided : d_divided.N.length = 2 := rfl
@[simp] theorem mp_divided : d_divided.mp = [] := rfl
@[simp] theorem df_divided : d_divided.dfl = [] := rfl
@[simp] theorem bo_divided : d_divided.body = b_divided := rfl
@[simp] theorem tb_sum_of : tb 11 = some d_sum_of := rfl
@[simp] theorem np_sum_of : d_sum_of.np = 1 := rfl
@[simp] theorem nl_sum_of : d_sum_of.N.length = 3 := rfl
@[simp] theorem mp_sum_of : d_sum_of.mp = [] := rfl
@[simp] theorem df_sum_of : d_sum_of.dfl = [] := rfl
@[simp] theorem bo_sum_of : d_sum_of.body = b_sum_of := rfl
@[simp] theorem tb_plus : tb 12 = some d_plus := rfl
@[simp] theorem np_plus : d_plus.np = 2 := rfl
@[simp] theorem nl_plus : d_plus.N.length = 2 := rfl
@[simp] theorem mp_plus : d_plus.mp = [] := rfl
@[simp] theorem df_plus : d_plus.dfl = [] := rfl
@[simp] theorem bo_plus : d_plus.body = b_plus := rfl
@[simp] theorem tb_minus : tb 13 = some d_minus := rfl
@[simp] theorem np_minus : d_minus.np = 2 := rfl
@[simp] theorem nl_minus : d_minus.N.length = 2 := rfl
@[simp] theorem mp_minus : d_minus.mp = [] := rfl
@[simp] theorem df_minus : d_minus.dfl = [] := rfl
@[simp] theorem bo_minus : d_minus.body = b_minus := rfl
@[simp] theorem tb_times : tb 14 = some d_times := rfl
@[simp] theorem np_times : d_times.np = 2 := rfl
@[simp] theorem nl_times : d_times.N.length = 2 := rfl
@[simp] theorem mp_times : d_times.mp = [] := rfl
@[simp] theorem df_times : d_times.dfl = [] := rfl
@[simp] theorem bo_times : d_times.body = b_times := rfl
@[simp] theorem tb_over : tb 15 = some d_over := rfl
@[simp] theorem np_over : d_over.np = 2 := rfl
@[simp] theorem nl_over : d_over.N.length = 2 := rfl
@[simp] theorem mp_over : d_over.mp = [] := rfl
@[simp] theorem df_over : d_over.dfl = [] := rfl
@[simp] theorem bo_over : d_over.body = b_over := rfl
@[simp] theorem tb_compared : tb 16 = some d_compared := rfl
@[simp] theorem np_compared : d_compared.np = 2 := rfl
@[simp] theorem nl_compared : d_compared.N.length = 4 := rfl
@[simp] theorem mp_compared : d_compared.mp = [] := rfl
@[simp] theorem df_compared : d_compared.dfl = [] := rfl
@[simp] theorem bo_compared : d_compared.body = b_compared := rfl
@[simp] theorem tb_total : tb 17 = some d_total := rfl
@[simp] theorem np_total : d_total.np = 1 := rfl
@[simp] theorem nl_total : d_total.N.length = 2 := rfl
@[simp] theorem mp_total : d_total.mp = [] := rfl
@[simp] theorem df_total : d_total.dfl = [] := rfl
@[simp] theorem bo_total : d_total.body = b_total := rfl
@[simp] theorem tb_power : tb 18 = some d_power := rfl
@[simp] theorem np_power : d_power.np = 2 := rfl
@[simp] theorem nl_power : d_power.N.length = 4 := rfl
@[simp] theorem mp_power : d_power.mp = [] := rfl
@[simp] theorem df_power : d_power.dfl = [] := rfl
@[simp] theorem bo_power : d_power.body = b_power := rfl
@[simp] theorem tb_law_dice : tb 19 = some d_law_dice := rfl
@[simp] theorem np_law_dice : d_law_dice.np = 2 := rfl
@[simp] theorem nl_law_dice : d_law_dice.N.length = 5 := rfl
@[simp] theorem mp_law_dice : d_law_dice.mp = [] := rfl
@[simp] theorem df_law_dice : d_law_dice.dfl = [] := rfl
@[simp] theorem bo_law_dice : d_law_dice.body = b_law_dice := rfl
@[simp] theorem tb_law_roll : tb 20 = some d_law_roll := rfl
@[simp] theorem np_law_roll : d_law_roll.np = 2 := rfl
@[simp] theorem nl_law_roll : d_law_roll.N.length = 5 := rfl
@[simp] theorem mp_law_roll : d_law_roll.mp = [0] := rfl
@[simp] theorem df_law_roll : d_law_roll.dfl = [] := rfl
@[simp] theorem bo_law_roll : d_law_roll.body = b_law_roll := rfl
@[simp] theorem tb_law_pick : tb 21 = some d_law_pick := rfl
@[simp] theorem np_law_pick : d_law_pick.np = 2 := rfl
@[simp] theorem nl_law_pick : d_law_pick.N.length = 2 := rfl
@[simp] theorem mp_law_pick : d_law_pick.mp = [0] := rfl
@[simp] theorem df_law_pick : d_law_pick.dfl = [] := rfl
@[simp] theorem bo_law_pick : d_law_pick.body = b_law_pick := rfl
@[simp] theorem tb_law_fr : tb 22 = some d_law_fr := rfl
@[simp] theorem np_law_fr : d_law_fr.np = 2 := rfl
@[simp] theorem nl_law_fr : d_law_fr.N.length = 5 := rfl
@[simp] theorem mp_law_fr : d_law_fr.mp = [] := rfl
@[simp] theorem df_law_fr : d_law_fr.dfl = [] := rfl
@[simp] theorem bo_law_fr : d_law_fr.body = b_law_fr := rfl
@[simp] theorem tb_law_plus : tb 23 = some d_law_plus := rfl
@[simp] theorem np_law_plus : d_law_plus.np = 2 := rfl
@[simp] theorem nl_law_plus : d_law_plus.N.length = 2 := rfl
@[simp] theorem mp_law_plus : d_law_plus.mp = [] := rfl
@[simp] theorem df_law_plus : d_law_plus.dfl = [] := rfl
@[simp] theorem bo_law_plus : d_law_plus.body = b_law_plus := rfl
@[simp] theorem tb_law_times : tb 24 = some d_law_times := rfl
@[simp] theorem np_law_times : d_law_times.np = 2 := rfl
@[simp] theorem nl_law_times : d_law_times.N.length = 2 := rfl
@[simp] theorem mp_law_times : d_law_times.mp = [] := rfl
@[simp] theorem df_law_times : d_law_times.dfl = [] := rfl
@[simp] theorem bo_law_times : d_law_times.body = b_law_times := rfl
@[simp] theorem tb_law_minus : tb 25 = some d_law_minus := rfl
@[simp] theorem np_law_minus : d_law_minus.np = 2 := rfl
@[simp] theorem nl_law_minus : d_law_minus.N.length = 2 := rfl
@[simp] theorem mp_law_minus : d_law_minus.mp = [] := rfl
@[simp] theorem df_law_minus : d_law_minus.dfl = [] := rfl
@[simp] theorem bo_law_minus : d_law_minus.body = b_law_minus := rfl
@[simp] theorem tb_law_integer : tb 26 = some d_law_integer := rfl
@[simp] theorem np_law_integer : d_law_integer.np = 1 := rfl
@[simp] theorem nl_law_integer : d_law_integer.N.length = 2 := rfl
@[simp] theorem mp_law_integer : d_law_integer.mp = [0] := rfl
@[simp] theorem df_law_integer : d_law_integer.dfl = [] := rfl
@[simp] theorem bo_law_integer : d_law_integer.body = b_law_integer := rfl
@[simp] theorem tb_law_drawn : tb 27 = some d_law_drawn := rfl
@[simp] theorem np_law_drawn : d_law_drawn.np = 1 := rfl
@[simp] theorem nl_law_drawn : d_law_drawn.N.length = 1 := rfl
@[simp] theorem mp_law_drawn : d_law_drawn.mp = [0] := rfl
@[simp] theorem df_law_drawn : d_law_drawn.dfl = [] := rfl
@[simp] theorem bo_law_drawn : d_law_drawn.body = b_law_drawn := rfl
@[simp] theorem tb_law_right : tb 28 = some d_law_right := rfl
@[simp] theorem np_law_right : d_law_right.np = 1 := rfl
@[simp] theorem nl_law_right : d_law_right.N.length = 14 := rfl
@[simp] theorem mp_law_right : d_law_right.mp = [0] := rfl
@[simp] theorem df_law_right : d_law_right.dfl = [] := rfl
@[simp] theorem bo_law_right : d_law_right.body = b_law_right := rfl
@[simp] theorem tb_law : tb 29 = some d_law := rfl
@[simp] theorem np_law : d_law.np = 1 := rfl
@[simp] theorem nl_law : d_law.N.length = 6 := rfl
@[simp] theorem mp_law : d_law.mp = [] := rfl
@[simp] theorem df_law : d_law.dfl = [] := rfl
@[simp] theorem bo_law : d_law.body = b_law := rfl
abbrev P : Program := PySem.Challenge.pw_anyrules_k21_whole_numbers
open HandSHeadRun in
section
open HandSHeadRun
theorem bd_is_integer : BindOk (topDef P 10).params (d_is_integer.N.take d_is_integer.np) d_is_integer.dfl.length := by
  intro _ _ _ _ _ _ _ _ _ _ us hl
  exact match us, hl with | [_], _ => rfl
theorem bd_common_divisor : BindOk (topDef P 11).params (d_common_divisor.N.take d_common_divisor.np) d_common_divisor.dfl.length := by
  intro _ _ _ _ _ _ _ _ _ _ us hl
  exact match us, hl with | [_, _], _ => rfl
theorem bd_is_number : BindOk (topDef P 12).params (d_is_number.N.take d_is_number.np) d_is_number.dfl.length := by
  intro _ _ _ _ _ _ _ _ _ _ us hl
  exact match us, hl with | [_], _ => rfl
theorem bd_reduced : BindOk (topDef P 13).params (d_reduced.N.take d_reduced.np) d_reduced.dfl.length := by
  intro _ _ _ _ _ _ _ _ _ _ us hl
  exact match us, hl with | [_, _], _ => rfl
theorem bd_number : BindOk (topDef P 14).params (d_number.N.take d_number.np) d_number.dfl.length := by
  unfold BindOk
  rw [if_neg (by decide)]
  intro m h1 h2 _ _ _ _ _ _ _ _ _ _ _ us its l1 l2
  subst l1
  have h1' : us.length ≤ 2 := h1
  have h2' : 2 ≤ us.length + 1 := h2
  have l2' : its.length = 1 := l2
  match us, its, h1', h2', l2' with
  | [_], [_], _, _, _ => exact ⟨_, rfl, rfl⟩
  | [_, _], [_], _, _, _ => exact ⟨_, rfl, rfl⟩
theorem bd_require_number : BindOk (topDef P 15).params (d_require_number.N.take d_require_number.np) d_require_number.dfl.length := by
  intro _ _ _ _ _ _ _ _ _ _ us hl
  exact match us, hl with | [_], _ => rfl
theorem bd_require_count : BindOk (topDef P 16).params (d_require_count.N.take d_require_count.np) d_require_count.dfl.length := by
  unfold BindOk
  rw [if_neg (by decide)]
  intro m h1 h2 _ _ _ _ _ _ _ _ _ _ _ us its l1 l2
  subst l1
  have h1' : us.length ≤ 3 := h1
  have h2' : 3 ≤ us.length + 2 := h2
  have l2' : its.length = 2 := l2
  match us, its, h1', h2', l2' with
  | [_], [_, _], _, _, _ => exact ⟨_, rfl, rfl⟩
  | [_, _], [_, _], _, _, _ => exact ⟨_, rfl, rfl⟩
  | [_, _, _], [_, _], _, _, _ => exact ⟨_, rfl, rfl⟩
theorem bd_added : BindOk (topDef P 17).params (d_added.N.take d_added.np) d_added.dfl.length := by
  intro _ _ _ _ _ _ _ _ _ _ us hl
  exact match us, hl with | [_, _], _ => rfl
theorem bd_multiplied : BindOk (topDef P 18).params (d_multiplied.N.take d_multiplied.np) d_multiplied.dfl.length := by
  intro _ _ _ _ _ _ _ _ _ _ us hl
  exact match us, hl with | [_, _], _ => rfl
theorem bd_opposite : BindOk (topDef P 19).params (d_opposite.N.take d_opposite.np) d_opposite.dfl.length := by
  intro _ _ _ _ _ _ _ _ _ _ us hl
  exact match us, hl with | [_], _ => rfl
theorem bd_divided : BindOk (topDef P 20).params (d_divided.N.take d_divided.np) d_divided.dfl.length := by
  intro _ _ _ _ _ _ _ _ _ _ us hl
  exact match us, hl with | [_, _], _ => rfl
theorem bd_sum_of : BindOk (topDef P 21).params (d_sum_of.N.take d_sum_of.np) d_sum_of.dfl.length := by
  intro _ _ _ _ _ _ _ _ _ _ us hl
  exact match us, hl with | [_], _ => rfl
theorem bd_plus : BindOk (topDef P 22).params (d_plus.N.take d_plus.np) d_plus.dfl.length := by
  intro _ _ _ _ _ _ _ _ _ _ us hl
  exact match us, hl with | [_, _], _ => rfl
theorem bd_minus : BindOk (topDef P 23).params (d_minus.N.take d_minus.np) d_minus.dfl.length := by
  intro _ _ _ _ _ _ _ _ _ _ us hl
  exact match us, hl with | [_, _], _ => rfl
theorem bd_times : BindOk (topDef P 24).params (d_times.N.take d_times.np) d_times.dfl.length := by
  intro _ _ _ _ _ _ _ _ _ _ us hl
  exact match us, hl with | [_, _], _ => rfl
theorem bd_over : BindOk (topDef P 25).params (d_over.N.take d_over.np) d_over.dfl.length := by
  intro _ _ _ _ _ _ _ _ _ _ us hl
  exact match us, hl with | [_, _], _ => rfl
theorem bd_compared : BindOk (topDef P 26).params (d_compared.N.take d_compared.np) d_compared.dfl.length := by
  intro _ _ _ _ _ _ _ _ _ _ us hl
  exact match us, hl with | [_, _], _ => rfl
theorem bd_total : BindOk (topDef P 27).params (d_total.N.take d_total.np) d_total.dfl.length := by
  intro _ _ _ _ _ _ _ _ _ _ us hl
  exact match us, hl with | [_], _ => rfl
theorem bd_power : BindOk (topDef P 28).params (d_power.N.take d_power.np) d_power.dfl.length := by
  intro _ _ _ _ _ _ _ _ _ _ us hl
  exact match us, hl with | [_, _], _ => rfl
theorem bd_law_dice : BindOk (topDef P 30).params (d_law_dice.N.take d_law_dice.np) d_law_dice.dfl.length := by
  intro _ _ _ _ _ _ _ _ _ _ us hl
  exact match us, hl with | [_, _], _ => rfl
theorem bd_law_roll : BindOk (topDef P 31).params (d_law_roll.N.take d_law_roll.np) d_law_roll.dfl.length := by
  intro _ _ _ _ _ _ _ _ _ _ us hl
  exact match us, hl with | [_, _], _ => rfl
theorem bd_law_pick : BindOk (topDef P 32).params (d_law_pick.N.take d_law_pick.np) d_law_pick.dfl.length := by
  intro _ _ _ _ _ _ _ _ _ _ us hl
  exact match us, hl with | [_, _], _ => rfl
theorem bd_law_fr : BindOk (topDef P 33).params (d_law_fr.N.take d_law_fr.np) d_law_fr.dfl.length := by
  intro _ _ _ _ _ _ _ _ _ _ us hl
  exact match us, hl with | [_, _], _ => rfl
theorem bd_law_plus : BindOk (topDef P 34).params (d_law_plus.N.take d_law_plus.np) d_law_plus.dfl.length := by
  intro _ _ _ _ _ _ _ _ _ _ us hl
  exact match us, hl with | [_, _], _ => rfl
theorem bd_law_times : BindOk (topDef P 35).params (d_law_times.N.take d_law_times.np) d_law_times.dfl.length := by
  intro _ _ _ _ _ _ _ _ _ _ us hl
  exact match us, hl with | [_, _], _ => rfl
theorem bd_law_minus : BindOk (topDef P 36).params (d_law_minus.N.take d_law_minus.np) d_law_minus.dfl.length := by
  intro _ _ _ _ _ _ _ _ _ _ us hl
  exact match us, hl with | [_, _], _ => rfl
theorem bd_law_integer : BindOk (topDef P 37).params (d_law_integer.N.take d_law_integer.np) d_law_integer.dfl.length := by
  intro _ _ _ _ _ _ _ _ _ _ us hl
  exact match us, hl with | [_], _ => rfl
theorem bd_law_drawn : BindOk (topDef P 38).params (d_law_drawn.N.take d_law_drawn.np) d_law_drawn.dfl.length := by
  intro _ _ _ _ _ _ _ _ _ _ us hl
  exact match us, hl with | [_], _ => rfl
theorem bd_law_right : BindOk (topDef P 39).params (d_law_right.N.take d_law_right.np) d_law_right.dfl.length := by
  intro _ _ _ _ _ _ _ _ _ _ us hl
  exact match us, hl with | [_], _ => rfl
theorem bd_law : BindOk (topDef P 40).params (d_law.N.take d_law.np) d_law.dfl.length := by
  intro _ _ _ _ _ _ _ _ _ _ us hl
  exact match us, hl with | [_], _ => rfl
theorem binds : AllBind P rows := ⟨bd_is_integer, bd_common_divisor, bd_is_number, bd_reduced, bd_number, bd_require_number, bd_require_count, bd_added, bd_multiplied, bd_opposite, bd_divided, bd_sum_of, bd_plus, bd_minus, bd_times, bd_over, bd_compared, bd_total, bd_power, bd_law_dice, bd_law_roll, bd_law_pick, bd_law_fr, bd_law_plus, bd_law_times, bd_law_minus, bd_law_integer, bd_law_drawn, bd_law_right, bd_law, trivial⟩
end
def loose0 : List Str := ["RuleError", "InvalidFraction", "InvalidCount", "Refused", "NOUGHT", "ONE", "MAX_COUNT", "MOST_PASSED", "is_integer", "common_divisor", "is_number", "reduced"]
def loose1 : List Str := ["number", "require_number", "require_count", "added", "multiplied", "opposite", "divided", "sum_of", "plus", "minus", "times", "over"]
def loose2 : List Str := ["compared", "total", "power", "_law_dice", "_law_roll", "_law_pick", "_law_fr", "_law_plus", "_law_times", "_law_minus", "_law_integer", "_law_drawn"]
def loose3 : List Str := ["_law_right"]
def loose : List Str := loose0 ++ (loose1 ++ (loose2 ++ (loose3)))
/- law: top 40, row 29, defs 30 -/
end K21

namespace K21
open PySem Mp
theorem is_integer (n : Nat) (i : Int) : runF tb (n + 1) 0 [.pv (.int i)] = .ok (.val (.bl true)) [.pv (.int i)] := by
  rw [run1 tb_is_integer rfl]
  simp [b_is_integer]
theorem gcd_loop (cl : Cl) (a b : Nat) (tl : Sg) (h : euM a b < fuel) : exS cl tb (.whl (.cmp .Gt (.bor 1) (.cst (.int 0))) [.par [0, 1] [(.var 1), (.bin .Mod (.bor 0) (.bor 1))]]) (.pv (.int a) :: .pv (.int b) :: tl) = .nx (.pv (.int (Nat.gcd a b)) :: .pv (.int 0) :: tl) := by
  rw [x_whl]
  obtain ⟨s', h1, h2⟩ := wh_rule (t := fun s => asB (evE cl tb (.cmp .Gt (.bor 1) (.cst (.int 0))) s)) (b := exSs cl tb [.par [0, 1] [(.var 1), (.bin .Mod (.bor 0) (.bor 1))]])
    (fun m s => ∃ x y : Nat, s = .pv (.int x) :: .pv (.int y) :: tl ∧ Nat.gcd x y = Nat.gcd a b ∧ m = euM x y) (fun s => s = .pv (.int (Nat.gcd a b)) :: .pv (.int 0) :: tl) (fun m s ⟨x, y, e, hg, hm⟩ => by
      subst e
      by_cases hy : y = 0
      · subst hy
        left
        refine ⟨_, by simp; rfl, ?_⟩
        simp [← hg]
      · right
        have hy' : 0 < y := by omega
        refine ⟨.pv (.int x) :: .pv (.int y) :: tl, .pv (.int y) :: .pv (.int ((x % y : Nat) : Int)) :: tl, euM y (x % y), by simp [hy'], .inl ?_, ?_, y, x % y, rfl, ?_, rfl⟩
        · simp [binI, hy]
          rw [Int.fmod_eq_emod_of_nonneg _ (by omega)]
        · rw [hm]; exact eu_step (by omega)
        · rw [← hg, Nat.gcd_comm x y, Nat.gcd_rec y x, Nat.gcd_comm]) fuel (euM a b) _ ⟨a, b, rfl, rfl, rfl⟩ h
  rw [h1, h2]
theorem nab (i : Int) : (if i < 0 then -i else i) = (i.natAbs : Int) := by omega
theorem common_divisor (n : Nat) (a b : Int) (h : euM a.natAbs b.natAbs < fuel) : runF tb (n + 1) 1 [.pv (.int a), .pv (.int b)] = .ok (.val (.int (Int.gcd a b))) [.pv (.int a), .pv (.int b)] := by
  rw [run1 tb_common_divisor rfl]
  simp [b_common_divisor, nab, gcd_loop, h]
  rfl
theorem reduced (n : Nat) (a b : Int) (hb : b ≠ 0) (h1 : sz a ≤ 7000) (h2 : sz b ≤ 7000) : runF tb (n + 2) 3 [.pv (.int a), .pv (.int b)] = .ok (.val (qv (Rat.divInt a b))) [.pv (.int a), .pv (.int b)] := by
  rw [run1 tb_reduced rfl]
  have key : ∀ (a b : Int), 0 < b → sz a ≤ 7000 → sz b ≤ 7000 → exSs (runF tb (n + 1)) tb (b_reduced.drop 1) [.pv (.int a), .pv (.int b), .un] = .rt (.val (qv (Rat.divInt a b))) [.pv (.int a), .pv (.int b), .pv (.int (Int.gcd a b))] := by
    intro a b hb h1 h2
    have hg := gcd_pos (a := a) (b := b) (by omega)
    have g1 : ¬ ((Int.gcd a b : Int) = 0) := by omega
    have sg : sz (Int.gcd a b : Int) ≤ 7000 := Nat.le_trans (siz_mono (by
      show ((Int.gcd a b : Int)).natAbs ≤ b.natAbs
      rw [Int.natAbs_natCast]
      exact Nat.le_of_dvd (by omega) (Int.gcd_dvd_natAbs_right a b))) h2
    have p1 := no_pylong (a := a) (b := (Int.gcd a b : Int)) (by omega)
    have p2 := no_pylong (a := b) (b := (Int.gcd a b : Int)) (by omega)
    have b0 : ¬ b = 0 := by omega
    have e1 := num_pos (a := a) hb
    have e2 := den_pos (a := a) hb
    simp [b_reduced, common_divisor, eu_small (Nat.le_trans h1 (by decide)) (Nat.le_trans h2 (by decide)), binI, b0, p1, p2, qv, e1, e2, line]
    exact ⟨Int.fdiv_eq_ediv_of_nonneg _ (by omega), Int.fdiv_eq_ediv_of_nonneg _ (by omega)⟩
  rw [show d_reduced.body = b_reduced.take 1 ++ b_reduced.drop 1 from rfl, x_append]
  by_cases hn : b < 0
  · have := key (-a) (-b) (by omega) (by rw [sz_neg]; exact h1) (by rw [sz_neg]; exact h2)
    simp [b_reduced, binI, hn] at this ⊢
    rw [this, div_flip a b]
    simp
  · have := key a b (by omega) h1 h2
    simp [b_reduced, hn] at this ⊢
    rw [this]
    simp
end K21

namespace K21
open PySem Mp
theorem gcd_loop2 (cl : Cl) (x0 x1 : Slot) (a b : Nat) (tl : Sg) (h : euM a b < fuel) : exS cl tb (.whl (.cmp .Gt (.bor 3) (.cst (.int 0))) [.par [2, 3] [(.var 3), (.bin .Mod (.bor 2) (.bor 3))]]) (x0 :: x1 :: .pv (.int a) :: .pv (.int b) :: tl) = .nx (x0 :: x1 :: .pv (.int (Nat.gcd a b)) :: .pv (.int 0) :: tl) := by
  rw [x_whl]
  obtain ⟨s', h1, h2⟩ := wh_rule (t := fun s => asB (evE cl tb (.cmp .Gt (.bor 3) (.cst (.int 0))) s)) (b := exSs cl tb [.par [2, 3] [(.var 3), (.bin .Mod (.bor 2) (.bor 3))]])
    (fun m s => ∃ x y : Nat, s = x0 :: x1 :: .pv (.int x) :: .pv (.int y) :: tl ∧ Nat.gcd x y = Nat.gcd a b ∧ m = euM x y) (fun s => s = x0 :: x1 :: .pv (.int (Nat.gcd a b)) :: .pv (.int 0) :: tl) (fun m s ⟨x, y, e, hg, hm⟩ => by
      subst e
      by_cases hy : y = 0
      · subst hy
        left
        refine ⟨_, by simp; rfl, ?_⟩
        simp [← hg]
      · right
        have hy' : 0 < y := by omega
        refine ⟨x0 :: x1 :: .pv (.int x) :: .pv (.int y) :: tl, x0 :: x1 :: .pv (.int y) :: .pv (.int ((x % y : Nat) : Int)) :: tl, euM y (x % y), by simp [hy'], .inl ?_, ?_, y, x % y, rfl, ?_, rfl⟩
        · simp [binI, hy]
          rw [Int.fmod_eq_emod_of_nonneg _ (by omega)]
        · rw [hm]; exact eu_step (by omega)
        · rw [← hg, Nat.gcd_comm x y, Nat.gcd_rec y x, Nat.gcd_comm]) fuel (euM a b) _ ⟨a, b, rfl, rfl, rfl⟩ h
  rw [h1, h2]
theorem law_fr (n : Nat) (a b : Int) (hb : b ≠ 0) (h1 : sz a ≤ 7000) (h2 : sz b ≤ 7000) : runF tb (n + 1) 22 [.pv (.int a), .pv (.int b)] = .ok (.val (qv (Rat.divInt a b))) [.pv (.int a), .pv (.int b)] := by
  rw [run1 tb_law_fr rfl]
  have hg := gcd_pos (a := a) hb
  have sg : sz (Int.gcd a b : Int) ≤ 7000 := Nat.le_trans (siz_mono (by
    show ((Int.gcd a b : Int)).natAbs ≤ b.natAbs
    rw [Int.natAbs_natCast]
    exact Nat.le_of_dvd (by omega) (Int.gcd_dvd_natAbs_right a b))) h2
  have p := fun x : Int => no_pylong (a := x) (b := (Int.gcd a b : Int)) (by omega)
  have eu := eu_small (Nat.le_trans h1 (by decide)) (Nat.le_trans h2 (by decide))
  have m1 := fun x : Int => fun hx : sz x ≤ 7000 => ok_mul (a := -1) (b := x) (by decide) (by omega)
  have m2 := fun x : Int => fun hx : sz x ≤ 7000 => ok_mul (a := 1) (b := x) (by decide) (by omega)
  have gg : a.natAbs.gcd b.natAbs = Int.gcd a b := rfl
  have fd : ∀ x : Int, x.fdiv (Int.gcd a b) = x / (Int.gcd a b : Int) := fun x => Int.fdiv_eq_ediv_of_nonneg _ (by omega)
  by_cases hn : b < 0
  · have e1 := num_pos (a := -a) (b := -b) (by omega)
    have e2 := den_pos (a := -a) (b := -b) (by omega)
    rw [← div_flip, Int.neg_gcd, Int.gcd_neg] at e1 e2
    simp [b_law_fr, nab, gcd_loop2, eu, gg]
    simp [binI, hn, hb, p, m1 _ h1, m1 _ h2, gg, fd, qv, e1, e2, line]
  · have e1 := num_pos (a := a) (b := b) (by omega)
    have e2 := den_pos (a := a) (b := b) (by omega)
    simp [b_law_fr, nab, gcd_loop2, eu, gg]
    simp [binI, hn, hb, p, m2 _ h1, m2 _ h2, gg, fd, qv, e1, e2, line]
/-- the dice behind at most m rolls -/
structure DK (m : Nat) (d : PV) : Prop where
  ex : ∃ g s c : Int, d = .lst [.int g, .int s, .int c] ∧ 0 ≤ g ∧ sz g ≤ 1100 ∧ 0 ≤ s ∧ sz s ≤ 100 ∧ 0 ≤ c ∧ sz c ≤ 100 + m
theorem DK.mono {m k : Nat} {d : PV} (h : DK m d) (hk : m ≤ k) : DK k d := by
  obtain ⟨g, s, c, h1, h2, h3, h4, h5, h6, h7⟩ := h.ex
  exact ⟨g, s, c, h1, h2, h3, h4, h5, h6, by omega⟩
theorem roll (n : Nat) {m : Nat} {d : PV} (many : Int) (hd : DK m d) (hm : m ≤ 10000) (h0 : 0 < many) (h1 : sz many ≤ 7000) : ∃ (r : Int) (d' : PV), runF tb (n + 1) 20 [.own false d, .pv (.int many)] = .ok (.val (.int r)) [.own false d', .pv (.int many)] ∧ 0 ≤ r ∧ r < many ∧ DK (m + 1) d' := by
  obtain ⟨g, s, c, rfl, g0, g1, s0, s1, c0, c1⟩ := hd.ex
  rw [run1 tb_law_roll rfl]
  have m0 : ¬ many = 0 := by omega
  have p1 := no_pylong (a := g) (b := many) (by omega)
  by_cases hg : 0 < g
  · refine ⟨g.fmod many, .lst [.int (g.fdiv many), .int s, .int c], ?_, ?_, ?_, g.fdiv many, s, c, rfl, ?_, ?_, s0, s1, c0, by omega⟩
    · simp [b_law_roll, hg, binI, m0, p1]
    · rw [Int.fmod_eq_emod_of_nonneg _ (by omega)]; exact Int.emod_nonneg _ m0
    · rw [Int.fmod_eq_emod_of_nonneg _ (by omega)]; exact Int.emod_lt_of_pos _ h0
    · rw [Int.fdiv_eq_ediv_of_nonneg _ (by omega)]; exact Int.ediv_nonneg g0 (by omega)
    · rw [Int.fdiv_eq_ediv_of_nonneg _ (by omega)]; exact Nat.le_trans (sz_div _ _) g1
  · have k1 : sz (c + 1) ≤ 100 + m + 1 := sz_add c1 (Nat.le_trans (show siz 1 ≤ 1 by decide) (by omega))
    have q1 := ok_mul (a := 49979687) (b := c + 1) (by decide) (by omega)
    have q2 := ok_mul (a := 131) (b := c + 1) (by decide) (by omega)
    obtain ⟨one, ho⟩ : ∃ one : Int, (s + 49979687 * (c + 1)).fmod 2305843009213693951 = one := ⟨_, rfl⟩
    have o1 : 0 ≤ one ∧ one < 2305843009213693951 := by rw [← ho]; exact ⟨Int.fmod_nonneg_of_pos _ (by decide), Int.fmod_lt_of_pos _ (by decide)⟩
    have o2 : sz one ≤ 62 := siz_lt (by omega)
    have q3 := ok_mul (a := one) (b := one) (by omega) (by omega)
    obtain ⟨two, ht⟩ : ∃ two : Int, (one * one + 131 * (c + 1)).fmod 2305843009213693921 = two := ⟨_, rfl⟩
    have t1 : 0 ≤ two ∧ two < 2305843009213693921 := by rw [← ht]; exact ⟨Int.fmod_nonneg_of_pos _ (by decide), Int.fmod_lt_of_pos _ (by decide)⟩
    have q4 := ok_mul (a := two) (b := 32452843) (Nat.le_trans (show sz two ≤ 62 from siz_lt (by omega)) (by decide)) (by decide)
    have p2 := no_pylong (a := two * 32452843 + one) (b := 65587) (by decide)
    refine ⟨((two * 32452843 + one).fdiv 65587).fmod many, .lst [.int g, .int s, .int (c + 1)], ?_, ?_, ?_, g, s, c + 1, rfl, g0, g1, s0, s1, by omega, k1⟩
    · simp [b_law_roll, hg, binI, m0, q1, q2, ho, q3, ht, q4, p2]
    · exact Int.fmod_nonneg_of_pos _ h0
    · exact Int.fmod_lt_of_pos _ h0
end K21

namespace K21
open PySem Mp
theorem is_number (n : Nat) {r : Rat} (h : QB 7000 r) : runF tb (n + 2) 2 [.pv (qv r)] = .ok (.val (.bl true)) [.pv (qv r)] := by
  rw [run1 tb_is_number rfl]
  have eu : euM r.num.natAbs r.den < fuel := eu_small (Nat.le_trans h.n (by decide)) (Nat.le_trans h.d (by decide))
  have g : Int.gcd r.num r.den = 1 := r.reduced
  have dp := den_pos' r
  have dq : (1 : Int) ≤ r.den := by omega
  simp [b_is_number, v_lc, lcGo, wipeP, backP, is_integer, common_divisor, eu, g, dq, line]
theorem require_number (n : Nat) {r : Rat} (h : QB 7000 r) : runF tb (n + 3) 5 [.pv (qv r)] = .ok (.val .non) [.pv (qv r)] := by
  rw [run1 tb_require_number rfl]
  simp [b_require_number, is_number (n := n) h]
theorem added (n : Nat) {r s : Rat} (h : QB 3000 r) (h2 : QB 3000 s) : runF tb (n + 3) 7 [.pv (qv r), .pv (qv s)] = .ok (.val (qv (r + s))) [.pv (qv r), .pv (qv s)] := by
  rw [run1 tb_added rfl]
  have e := rat_add r s
  by_cases h1 : r.den = 1 ∧ s.den = 1
  · rw [h1.1, h1.2] at e
    simp at e
    rw [← e, qv_one]
    simp [b_added, h1.1, h1.2, binI, line]
  · have m1 := ok_mul (a := r.num) (b := s.den) (Nat.le_trans h.n (by decide)) (Nat.le_trans h2.d (by decide))
    have m2 := ok_mul (a := s.num) (b := r.den) (Nat.le_trans h2.n (by decide)) (Nat.le_trans h.d (by decide))
    have m3 := ok_mul (a := r.den) (b := s.den) (Nat.le_trans h.d (by decide)) (Nat.le_trans h2.d (by decide))
    have z1 : sz (r.num * s.den) ≤ 6000 := Nat.le_trans (sz_mul _ _) (Nat.add_le_add h.n h2.d)
    have z2 : sz (s.num * r.den) ≤ 6000 := Nat.le_trans (sz_mul _ _) (Nat.add_le_add h2.n h.d)
    have z3 : sz (r.den * s.den : Int) ≤ 6000 := Nat.le_trans (sz_mul _ _) (Nat.add_le_add h.d h2.d)
    have rd := reduced n (r.num * s.den + s.num * r.den) (r.den * s.den) (Int.mul_ne_zero (den_ne r) (den_ne s)) (Nat.le_trans (sz_add z1 z2) (by decide)) (Nat.le_trans z3 (by decide))
    rw [e] at rd
    by_cases h3 : r.den = s.den
    · have h4 : ¬ s.den = 1 := fun q => h1 ⟨by rw [h3]; exact q, q⟩
      have h5 : ¬ ((s.den : Int) = 1) := by omega
      rw [h3] at rd m2 m3
      simp [b_added, h3, h4, h5, binI, m1, m2, m3, rd]
    · have h5 : ¬ ((r.den : Int) = s.den) := by omega
      simp [b_added, h3, h5, binI, m1, m2, m3, rd]
theorem multiplied (n : Nat) {r s : Rat} (h : QB 3000 r) (h2 : QB 3000 s) : runF tb (n + 3) 8 [.pv (qv r), .pv (qv s)] = .ok (.val (qv (r * s))) [.pv (qv r), .pv (qv s)] := by
  rw [run1 tb_multiplied rfl]
  have e := rat_mul r s
  have m1 := ok_mul (a := r.num) (b := s.num) (Nat.le_trans h.n (by decide)) (Nat.le_trans h2.n (by decide))
  have m3 := ok_mul (a := r.den) (b := s.den) (Nat.le_trans h.d (by decide)) (Nat.le_trans h2.d (by decide))
  by_cases h1 : r.den = 1 ∧ s.den = 1
  · rw [h1.1, h1.2] at e
    simp at e
    rw [← e, qv_one]
    simp [b_multiplied, h1.1, h1.2, binI, line, m1]
  · have z1 : sz (r.num * s.num) ≤ 6000 := Nat.le_trans (sz_mul _ _) (Nat.add_le_add h.n h2.n)
    have z3 : sz (r.den * s.den : Int) ≤ 6000 := Nat.le_trans (sz_mul _ _) (Nat.add_le_add h.d h2.d)
    have rd := reduced n (r.num * s.num) (r.den * s.den) (Int.mul_ne_zero (den_ne r) (den_ne s)) (Nat.le_trans z1 (by decide)) (Nat.le_trans z3 (by decide))
    rw [e] at rd
    by_cases h3 : r.den = s.den
    · have h4 : ¬ s.den = 1 := fun q => h1 ⟨by rw [h3]; exact q, q⟩
      have h5 : ¬ ((s.den : Int) = 1) := by omega
      rw [h3] at rd m3
      simp [b_multiplied, h3, h4, h5, binI, m1, m3, rd]
    · have h5 : ¬ ((r.den : Int) = s.den) := by omega
      simp [b_multiplied, h3, h5, binI, m1, m3, rd]
theorem opposite (n : Nat) {r : Rat} : runF tb (n + 1) 9 [.pv (qv r)] = .ok (.val (qv (-r))) [.pv (qv r)] := by
  rw [run1 tb_opposite rfl]
  simp [b_opposite, binI, line, qv, Rat.neg_num, Rat.neg_den]
theorem divided (n : Nat) {r s : Rat} (h : QB 3000 r) (h2 : QB 3000 s) (h0 : s ≠ 0) : runF tb (n + 3) 10 [.pv (qv r), .pv (qv s)] = .ok (.val (qv (r / s))) [.pv (qv r), .pv (qv s)] := by
  rw [run1 tb_divided rfl]
  have e := rat_div r s h0
  have m1 := ok_mul (a := r.num) (b := s.den) (Nat.le_trans h.n (by decide)) (Nat.le_trans h2.d (by decide))
  have m3 := ok_mul (a := r.den) (b := s.num) (Nat.le_trans h.d (by decide)) (Nat.le_trans h2.n (by decide))
  have z1 : sz (r.num * s.den) ≤ 6000 := Nat.le_trans (sz_mul _ _) (Nat.add_le_add h.n h2.d)
  have z3 : sz (r.den * s.num : Int) ≤ 6000 := Nat.le_trans (sz_mul _ _) (Nat.add_le_add h.d h2.n)
  have rd := reduced n (r.num * s.den) (r.den * s.num) (Int.mul_ne_zero (den_ne r) (fun e => h0 (Rat.num_eq_zero.mp e))) (Nat.le_trans z1 (by decide)) (Nat.le_trans z3 (by decide))
  rw [e] at rd
  simp [b_divided, binI, m1, m3, rd]
theorem plus (n : Nat) {r s : Rat} (h : QB 3000 r) (h2 : QB 3000 s) : runF tb (n + 4) 12 [.pv (qv r), .pv (qv s)] = .ok (.val (qv (r + s))) [.pv (qv r), .pv (qv s)] := by
  rw [run1 tb_plus rfl]
  simp [b_plus, require_number (n := n) (h.mono (by decide)), require_number (n := n) (h2.mono (by decide)), added (n := n) h h2]
theorem minus (n : Nat) {r s : Rat} (h : QB 3000 r) (h2 : QB 3000 s) : runF tb (n + 4) 13 [.pv (qv r), .pv (qv s)] = .ok (.val (qv (r - s))) [.pv (qv r), .pv (qv s)] := by
  rw [run1 tb_minus rfl]
  simp [b_minus, require_number (n := n) (h.mono (by decide)), require_number (n := n) (h2.mono (by decide)), opposite (n := n + 2), added (n := n) h (qb_neg h2), Rat.sub_eq_add_neg]
theorem times (n : Nat) {r s : Rat} (h : QB 3000 r) (h2 : QB 3000 s) : runF tb (n + 4) 14 [.pv (qv r), .pv (qv s)] = .ok (.val (qv (r * s))) [.pv (qv r), .pv (qv s)] := by
  rw [run1 tb_times rfl]
  simp [b_times, require_number (n := n) (h.mono (by decide)), require_number (n := n) (h2.mono (by decide)), multiplied (n := n) h h2]
theorem nought : c_NOUGHT = qv 0 := rfl
theorem over (n : Nat) {r s : Rat} (h : QB 3000 r) (h2 : QB 3000 s) (h0 : s ≠ 0) : runF tb (n + 4) 15 [.pv (qv r), .pv (qv s)] = .ok (.val (qv (r / s))) [.pv (qv r), .pv (qv s)] := by
  rw [run1 tb_over rfl]
  simp [b_over, require_number (n := n) (h.mono (by decide)), require_number (n := n) (h2.mono (by decide)), nought, h0, divided (n := n) h h2 h0]
theorem law_plus (n : Nat) {r s : Rat} (h : QB 3000 r) (h2 : QB 3000 s) : runF tb (n + 2) 23 [.pv (qv r), .pv (qv s)] = .ok (.val (qv (r + s))) [.pv (qv r), .pv (qv s)] := by
  rw [run1 tb_law_plus rfl]
  have m1 := ok_mul (a := r.num) (b := s.den) (Nat.le_trans h.n (by decide)) (Nat.le_trans h2.d (by decide))
  have m2 := ok_mul (a := s.num) (b := r.den) (Nat.le_trans h2.n (by decide)) (Nat.le_trans h.d (by decide))
  have m3 := ok_mul (a := r.den) (b := s.den) (Nat.le_trans h.d (by decide)) (Nat.le_trans h2.d (by decide))
  have z1 : sz (r.num * s.den) ≤ 6000 := Nat.le_trans (sz_mul _ _) (Nat.add_le_add h.n h2.d)
  have z2 : sz (s.num * r.den) ≤ 6000 := Nat.le_trans (sz_mul _ _) (Nat.add_le_add h2.n h.d)
  have z3 : sz (r.den * s.den : Int) ≤ 6000 := Nat.le_trans (sz_mul _ _) (Nat.add_le_add h.d h2.d)
  have rd := law_fr n (r.num * s.den + s.num * r.den) (r.den * s.den) (Int.mul_ne_zero (den_ne r) (den_ne s)) (Nat.le_trans (sz_add z1 z2) (by decide)) (Nat.le_trans z3 (by decide))
  rw [rat_add r s] at rd
  simp [b_law_plus, binI, m1, m2, m3, rd]
theorem law_minus (n : Nat) {r s : Rat} (h : QB 3000 r) (h2 : QB 3000 s) : runF tb (n + 2) 25 [.pv (qv r), .pv (qv s)] = .ok (.val (qv (r - s))) [.pv (qv r), .pv (qv s)] := by
  rw [run1 tb_law_minus rfl]
  have m1 := ok_mul (a := r.num) (b := s.den) (Nat.le_trans h.n (by decide)) (Nat.le_trans h2.d (by decide))
  have m2 := ok_mul (a := s.num) (b := r.den) (Nat.le_trans h2.n (by decide)) (Nat.le_trans h.d (by decide))
  have m3 := ok_mul (a := r.den) (b := s.den) (Nat.le_trans h.d (by decide)) (Nat.le_trans h2.d (by decide))
  have z1 : sz (r.num * s.den) ≤ 6000 := Nat.le_trans (sz_mul _ _) (Nat.add_le_add h.n h2.d)
  have z2 : sz (s.num * r.den) ≤ 6000 := Nat.le_trans (sz_mul _ _) (Nat.add_le_add h2.n h.d)
  have z3 : sz (r.den * s.den : Int) ≤ 6000 := Nat.le_trans (sz_mul _ _) (Nat.add_le_add h.d h2.d)
  have rd := law_fr n (r.num * s.den - s.num * r.den) (r.den * s.den) (Int.mul_ne_zero (den_ne r) (den_ne s)) (Nat.le_trans (sz_sub z1 z2) (by decide)) (Nat.le_trans z3 (by decide))
  rw [rat_sub r s] at rd
  simp [b_law_minus, binI, m1, m2, m3, rd]
theorem law_times (n : Nat) {r s : Rat} (h : QB 3000 r) (h2 : QB 3000 s) : runF tb (n + 2) 24 [.pv (qv r), .pv (qv s)] = .ok (.val (qv (r * s))) [.pv (qv r), .pv (qv s)] := by
  rw [run1 tb_law_times rfl]
  have m1 := ok_mul (a := r.num) (b := s.num) (Nat.le_trans h.n (by decide)) (Nat.le_trans h2.n (by decide))
  have m3 := ok_mul (a := r.den) (b := s.den) (Nat.le_trans h.d (by decide)) (Nat.le_trans h2.d (by decide))
  have z1 : sz (r.num * s.num) ≤ 6000 := Nat.le_trans (sz_mul _ _) (Nat.add_le_add h.n h2.n)
  have z3 : sz (r.den * s.den : Int) ≤ 6000 := Nat.le_trans (sz_mul _ _) (Nat.add_le_add h.d h2.d)
  have rd := law_fr n (r.num * s.num) (r.den * s.den) (Int.mul_ne_zero (den_ne r) (den_ne s)) (Nat.le_trans z1 (by decide)) (Nat.le_trans z3 (by decide))
  rw [rat_mul r s] at rd
  simp [b_law_times, binI, m1, m3, rd]
end K21

namespace K21
open PySem Mp
/-- a def of two plain parameters -/
structure Two (cl : Cl) (g : Nat) (f : Rat → Rat → Rat) : Prop where
  tbl : ∃ d, tb g = some d ∧ d.np = 2 ∧ d.dfl = [] ∧ d.mp = []
  eq : ∀ r s, QB 3000 r → QB 3000 s → cl g [.pv (qv r), .pv (qv s)] = .ok (.val (qv (f r s))) [.pv (qv r), .pv (qv s)]
theorem Two.call {cl : Cl} {g : Nat} {f : Rat → Rat → Rat} (T : Two cl g f) {s : Sg} {a b : Nat} {x y : Rat} (h1 : s[a]? = some (.pv (qv x))) (h2 : s[b]? = some (.pv (qv y))) (q1 : QB 3000 x) (q2 : QB 3000 y) :
    evE cl tb (.cal g [.var a, .var b]) s = .ok (.val (qv (f x y))) s := by
  obtain ⟨d, e1, e2, e3, e4⟩ := T.tbl
  simp [h1, h2, e1, e2, e3, e4, T.eq x y q1 q2]
theorem fold_loop {cl : Cl} {g a it l : Nat} (T : Two cl g (· + ·)) (hne : a ≠ it) : ∀ (rs : List Rat) (s : Sg) (acc : Rat) (k : Nat), (∀ r ∈ rs, QB l r) → QB k acc → k + rs.length * (l + 1) ≤ 3000 → l ≤ 3000 → s[a]? = some (.pv (qv acc)) → it < s.length →
    ∃ y, frGo (.nm it) (exSs cl tb [.asg (.nm a) (.cal g [.var a, .var it])]) (rs.map qv) s = .nx ((s.set it y).set a (.pv (qv (acc + rs.sum)))) ∧ QB 3000 (acc + rs.sum)
  | [], s, acc, k, _, ha, hk, _, h1, h2 => by
    refine ⟨s[it], ?_, ?_⟩
    · simp only [List.map_nil, frGo, List.sum_nil, Rat.add_zero]
      congr 1
      rw [List.set_getElem_self]
      refine (List.ext_getElem? fun i => ?_).symm
      by_cases hi : a = i
      · subst hi
        have hlt := (List.getElem?_eq_some_iff.mp h1).1
        rw [List.getElem?_set_self hlt, h1]
      · rw [List.getElem?_set_ne hi]
    · simpa [Rat.add_zero] using ha.mono (by omega)
  | r :: rs, s, acc, k, hr, ha, hk, hl, h1, h2 => by
    have hlt := (List.getElem?_eq_some_iff.mp h1).1
    rw [List.length_cons, Nat.succ_mul] at hk
    have q1 : QB 3000 acc := ha.mono (by omega)
    have q2 : QB 3000 r := (hr r (by simp)).mono hl
    have c := T.call (s := s.set it (.pv (qv r))) (a := a) (b := it) (by rw [List.getElem?_set_ne (Ne.symm hne)]; exact h1) (List.getElem?_set_self h2) q1 q2
    obtain ⟨y, e, q⟩ := fold_loop T hne rs ((s.set it (.pv (qv r))).set a (.pv (qv (acc + r)))) (acc + r) (k + l + 1) (fun x hx => hr x (by simp [hx])) (qb_add ha (hr r (by simp))) (by omega) hl (List.getElem?_set_self (by simpa using hlt)) (by simpa using h2)
    have es : acc + (r + rs.sum) = acc + r + rs.sum := by grind
    refine ⟨y, ?_, by rw [List.sum_cons, es]; exact q⟩
    rw [List.map_cons, frGo]
    simp only [Tg.store, if_pos h2]
    rw [x_cons, x_asg, c]
    simp only [kAsg_ok, asg_val, List.length_set, if_pos hlt, seq_nx, x_nil]
    rw [e, List.sum_cons, es]
    congr 1
    refine List.ext_getElem? fun i => ?_
    by_cases hi : a = i
    · subst hi
      rw [List.getElem?_set_self (by simpa using hlt), List.getElem?_set_self (by simpa using hlt)]
    · rw [List.getElem?_set_ne hi, List.getElem?_set_ne hi]
      by_cases hj : it = i
      · subst hj
        rw [List.getElem?_set_self (by simpa using h2), List.getElem?_set_self h2]
      · rw [List.getElem?_set_ne hj, List.getElem?_set_ne hi, List.getElem?_set_ne hj, List.getElem?_set_ne hj]
theorem pow_loop {cl : Cl} {g a it o l : Nat} {r : Rat} (T : Two cl g (· * ·)) (hne : a ≠ it) (hno : o ≠ it) (hao : a ≠ o) (hr : QB l r) (hl : l ≤ 3000) : ∀ (xs : List PV) (s : Sg) (acc : Rat) (k : Nat), QB k acc → k + xs.length * l ≤ 3000 → s[a]? = some (.pv (qv acc)) → s[o]? = some (.pv (qv r)) → it < s.length →
    ∃ y, frGo (.nm it) (exSs cl tb [.asg (.nm a) (.cal g [.var a, .var o])]) xs s = .nx ((s.set it y).set a (.pv (qv (acc * r ^ xs.length)))) ∧ QB 3000 (acc * r ^ xs.length)
  | [], s, acc, k, ha, hk, h1, h3, h2 => by
    refine ⟨s[it], ?_, ?_⟩
    · simp only [frGo, List.length_nil, Rat.pow_zero, Rat.mul_one]
      congr 1
      rw [List.set_getElem_self]
      refine (List.ext_getElem? fun i => ?_).symm
      by_cases hi : a = i
      · subst hi
        have hlt := (List.getElem?_eq_some_iff.mp h1).1
        rw [List.getElem?_set_self hlt, h1]
      · rw [List.getElem?_set_ne hi]
    · simpa [Rat.mul_one, Rat.pow_zero] using ha.mono (by omega)
  | x :: xs, s, acc, k, ha, hk, h1, h3, h2 => by
    have hlt := (List.getElem?_eq_some_iff.mp h1).1
    rw [List.length_cons, Nat.succ_mul] at hk
    have q1 : QB 3000 acc := ha.mono (by omega)
    have q2 : QB 3000 r := hr.mono hl
    have c := T.call (s := s.set it (.pv x)) (a := a) (b := o) (by rw [List.getElem?_set_ne (Ne.symm hne)]; exact h1) (by rw [List.getElem?_set_ne (Ne.symm hno)]; exact h3) q1 q2
    obtain ⟨y, e, q⟩ := pow_loop T hne hno hao hr hl xs ((s.set it (.pv x)).set a (.pv (qv (acc * r)))) (acc * r) (k + l) (qb_mul ha hr) (by omega) (List.getElem?_set_self (by simpa using hlt)) (by rw [List.getElem?_set_ne hao, List.getElem?_set_ne (Ne.symm hno)]; exact h3) (by simpa using h2)
    have es : acc * r ^ (xs.length + 1) = acc * r * r ^ xs.length := by rw [Rat.pow_succ]; grind
    refine ⟨y, ?_, by rw [List.length_cons, es]; exact q⟩
    rw [frGo]
    simp only [Tg.store, if_pos h2]
    rw [x_cons, x_asg, c]
    simp only [kAsg_ok, asg_val, List.length_set, if_pos hlt, seq_nx, x_nil]
    rw [e, List.length_cons, es]
    congr 1
    refine List.ext_getElem? fun i => ?_
    by_cases hi : a = i
    · subst hi
      rw [List.getElem?_set_self (by simpa using hlt), List.getElem?_set_self (by simpa using hlt)]
    · rw [List.getElem?_set_ne hi, List.getElem?_set_ne hi]
      by_cases hj : it = i
      · subst hj
        rw [List.getElem?_set_self (by simpa using h2), List.getElem?_set_self h2]
      · rw [List.getElem?_set_ne hj, List.getElem?_set_ne hi, List.getElem?_set_ne hj, List.getElem?_set_ne hj]
theorem two_added (n : Nat) : Two (runF tb (n + 3)) 7 (· + ·) := ⟨⟨_, tb_added, rfl, rfl, rfl⟩, fun r s h h2 => added n h h2⟩
theorem two_mult (n : Nat) : Two (runF tb (n + 3)) 8 (· * ·) := ⟨⟨_, tb_multiplied, rfl, rfl, rfl⟩, fun r s h h2 => multiplied n h h2⟩
theorem two_lplus (n : Nat) : Two (runF tb (n + 2)) 23 (· + ·) := ⟨⟨_, tb_law_plus, rfl, rfl, rfl⟩, fun r s h h2 => law_plus n h h2⟩
theorem two_ltimes (n : Nat) : Two (runF tb (n + 2)) 24 (· * ·) := ⟨⟨_, tb_law_times, rfl, rfl, rfl⟩, fun r s h h2 => law_times n h h2⟩
theorem one_eq : c_ONE = qv 1 := rfl
theorem qb0 : QB 1 0 := ⟨by decide, by decide⟩
theorem qb1 : QB 1 1 := ⟨by decide, by decide⟩
theorem sum_of (n : Nat) (rs : List Rat) {l : Nat} (h : ∀ r ∈ rs, QB l r) (hk : 1 + rs.length * (l + 1) ≤ 3000) (hl : l ≤ 3000) : runF tb (n + 4) 11 [.pv (.tup (rs.map qv))] = .ok (.val (qv rs.sum)) [.pv (.tup (rs.map qv))] := by
  rw [run1 tb_sum_of rfl]
  obtain ⟨y, e, _⟩ := fold_loop (two_added n) (a := 1) (it := 2) (by decide) rs [.pv (.tup (rs.map qv)), .pv (qv 0), .un] 0 1 h qb0 hk hl rfl (by simp)
  simp [b_sum_of, x_fro, nought, e, Rat.zero_add]
theorem total (n : Nat) (rs : List Rat) {l : Nat} (h : ∀ r ∈ rs, QB l r) (hk : 1 + rs.length * (l + 1) ≤ 3000) (hl : l ≤ 3000) : runF tb (n + 5) 17 [.pv (.tup (rs.map qv))] = .ok (.val (qv rs.sum)) [.pv (.tup (rs.map qv))] := by
  rw [run1 tb_total rfl]
  have key : ∀ (rs : List Rat) (m : Nat) (acc : List PV) (s : Sg), (∀ r ∈ rs, QB l r) → m + rs.length ≤ line → s.length = 2 → lcGo [1] (.nm 1) (evT (runF tb (n + 4)) tb []) (evE (runF tb (n + 4)) tb (.cal 2 [.var 1])) (rs.map qv) m acc s = .ok (acc.reverse ++ rs.map fun _ => PV.bl true) s := by
    intro rs
    induction rs with
    | nil => intro m acc s _ _ _; simp [lcGo]
    | cons r rs ih =>
      intro m acc s hr hm hs
      rw [List.length_cons] at hm
      match s, hs with
      | [s0, s1], _ =>
        have e := is_number (n := n + 2) ((hr r (by simp)).mono (by omega))
        rw [List.map_cons, lcGo]
        simp [wipeP, backP, e]
        rw [if_pos (by omega)]
        rw [ih (m + 1) _ _ (fun x hx => hr x (by simp [hx])) (by omega) rfl]
        simp
  have k2 := key rs 0 [] [.pv (.tup (rs.map qv)), .un] h (by have := Nat.le_mul_of_pos_right rs.length (show 0 < l + 1 by omega); unfold line; omega) rfl
  have ba : ∀ rs : List Rat, bools (rs.map fun _ => PV.bl true) = some (rs.map fun _ => true) := fun rs => by
    induction rs with
    | nil => rfl
    | cons r rs ih => simp [bools, ih]
  simp [b_total, v_lc, k2, ba, sum_of (n := n) rs h hk hl]
theorem compared (n : Nat) {r s : Rat} (h : QB 3000 r) (h2 : QB 3000 s) : runF tb (n + 4) 16 [.pv (qv r), .pv (qv s)] = .ok (.val (.int ((if r.num * s.den > s.num * r.den then 1 else 0) - (if r.num * s.den < s.num * r.den then 1 else 0)))) [.pv (qv r), .pv (qv s)] := by
  rw [run1 tb_compared rfl]
  have m1 := ok_mul (a := r.num) (b := s.den) (Nat.le_trans h.n (by decide)) (Nat.le_trans h2.d (by decide))
  have m2 := ok_mul (a := s.num) (b := r.den) (Nat.le_trans h2.n (by decide)) (Nat.le_trans h.d (by decide))
  simp [b_compared, require_number (n := n) (h.mono (by decide)), require_number (n := n) (h2.mono (by decide)), binI, m1, m2]
theorem require_count (n : Nat) (many : Nat) (hm : many ≤ 60) : runF tb (n + 2) 6 [.pv (.int many), .pv (.int 0), .pv (.int 60)] = .ok (.val .non) [.pv (.int many), .pv (.int 0), .pv (.int 60)] := by
  rw [run1 tb_require_count rfl]
  have h0 : (many : Int) ≤ 60 := by omega
  simp [b_require_count, is_integer, h0]
theorem power (n : Nat) {r : Rat} {l : Nat} (many : Nat) (hr : QB l r) (hm : many ≤ 60) (hl : l ≤ 3000) (hb : 1 + many * l ≤ 3000) : runF tb (n + 4) 18 [.pv (qv r), .pv (.int many)] = .ok (.val (qv (r ^ many))) [.pv (qv r), .pv (.int many)] := by
  rw [run1 tb_power rfl]
  have h3 : QB 7000 r := hr.mono (by omega)
  obtain ⟨y, e, _⟩ := pow_loop (two_mult n) (a := 2) (it := 3) (o := 0) (by omega) (by omega) (by omega) hr (by omega) ((List.range many).map fun (i : Nat) => PV.int i) [.pv (qv r), .pv (.int many), .pv (qv 1), .un] 1 1 qb1 (by simpa using hb) rfl rfl (by simp)
  have rn := it_rngN many (by omega)
  rw [List.length_map, List.length_range, Rat.one_mul] at e
  have q1 := require_number (n := n) h3
  have q2 : runF tb (n + 3) 6 [.pv (.int many), .pv (.int 0), .pv (.int 60)] = .ok (.val .non) [.pv (.int many), .pv (.int 0), .pv (.int 60)] := require_count (n + 1) many hm
  clear hb hm h3 hr hl
  have s1 : exSs (runF tb (n + 3)) tb b_power [.pv (qv r), .pv (.int many), .un, .un] = .rt (.val (qv (r ^ many))) ((List.set [.pv (qv r), .pv (.int many), .pv (qv 1), .un] 3 y).set 2 (.pv (qv (r ^ many)))) := by
    rw [show b_power = b_power.take 3 ++ b_power.drop 3 from rfl, x_append]
    have s2 : exSs (runF tb (n + 3)) tb (b_power.take 3) [.pv (qv r), .pv (.int many), .un, .un] = .nx [.pv (qv r), .pv (.int many), .pv (qv 1), .un] := by
      simp [b_power, q1, q2, one_eq]
    have s3 := x_fro' (runF tb (n + 3)) tb [.pv (qv r), .pv (.int many), .pv (qv 1), .un] (tg := .nm 3) (k := .rng) (src := [.var 1]) (b := [.asg (.nm 2) (.cal 8 [.var 2, .var 0])]) (by simp; exact ⟨rfl, rfl⟩) rfl rn
    rw [s2, seq_nx, show b_power.drop 3 = [.fro (.nm 3) .rng [.var 1] [.asg (.nm 2) (.cal 8 [.var 2, .var 0])], .ret (.bor 2)] from rfl, x_cons, s3, e]
    simp
  simp [s1]
end K21

namespace K21
open PySem Mp
theorem number (n : Nat) (a b : Int) (hb : b ≠ 0) (h1 : (a.natAbs : Int) < 10 ^ 40) (h2 : (b.natAbs : Int) < 10 ^ 40) : runF tb (n + 3) 4 [.pv (.int a), .pv (.int b)] = .ok (.val (qv (Rat.divInt a b))) [.pv (.int a), .pv (.int b)] := by
  rw [run1 tb_number rfl]
  have z1 : sz a ≤ 7000 := Nat.le_trans (siz_lt (k := 140) (by omega)) (by decide)
  have z2 : sz b ≤ 7000 := Nat.le_trans (siz_lt (k := 140) (by omega)) (by decide)
  have q := reduced n a b hb z1 z2
  have c1 : ¬ ((10000000000000000000000000000000000000000 : Int) ≤ a.natAbs) := by omega
  have c2 : ¬ ((10000000000000000000000000000000000000000 : Int) ≤ b.natAbs) := by omega
  simp [b_number, is_integer, nab, c_MOST_PASSED, c1, c2, hb, q]
theorem pick (n : Nat) {m : Nat} {d : PV} (items : List PV) (hd : DK m d) (hm : m ≤ 10000) (h0 : 0 < items.length) (h1 : items.length ≤ 1000) : ∃ (x : PV) (d' : PV), runF tb (n + 2) 21 [.own false d, .own false (.lst items)] = .ok (.val x) [.own false d', .un] ∧ x ∈ items ∧ DK (m + 1) d' := by
  obtain ⟨r, d', e, r0, r1, h⟩ := roll n (items.length : Int) hd hm (by omega) (Nat.le_trans (siz_lt (k := 20) (by rw [Int.natAbs_natCast]; exact Nat.lt_of_le_of_lt h1 (by decide))) (by decide))
  have hr : r.toNat < items.length := by omega
  refine ⟨items[r.toNat], d', ?_, List.getElem_mem hr, h⟩
  rw [run1 tb_law_pick rfl]
  simp [b_law_pick, e, r0, r1, hr]
theorem integer (n : Nat) {m : Nat} {d : PV} (hd : DK m d) (hm : m ≤ 9000) : ∃ (i : Int) (d' : PV), runF tb (n + 3) 26 [.own false d] = .ok (.val (.int i)) [.own false d'] ∧ i ≠ 0 ∧ (i.natAbs : Int) ≤ 10 ^ 19 ∧ DK (m + 3) d' := by
  obtain ⟨x, d1, e1, hx, h1⟩ := pick n [.int 10, .int 10, .int 10, .int 100, .int 1000000, .int 10000000000000000000] hd (by omega) (by decide) (by decide)
  obtain ⟨b, rfl, b0, b1⟩ : ∃ b : Int, x = .int b ∧ 0 < b ∧ b ≤ 10 ^ 19 := by
    simp only [List.mem_cons, List.not_mem_nil, or_false] at hx
    rcases hx with rfl | rfl | rfl | rfl | rfl | rfl <;> exact ⟨_, rfl, by decide, by decide⟩
  obtain ⟨r, d2, e2, r0, r1, h2⟩ := roll (n + 1) b h1 (by omega) b0 (Nat.le_trans (siz_lt (k := 64) (by omega)) (by decide))
  obtain ⟨y, d3, e3, hy, h3⟩ := pick n [.int 1, .int (-1)] h2 (by omega) (by decide) (by decide)
  have om : ∀ z : Int, (z = 1 ∨ z = -1) → okMul (1 + r) z = true := fun z hz => ok_mul (Nat.le_trans (siz_lt (k := 65) (by omega)) (by decide)) (by rcases hz with rfl | rfl <;> decide)
  obtain ⟨z, rfl, hz⟩ : ∃ z : Int, y = .int z ∧ (z = 1 ∨ z = -1) := by
    simp only [List.mem_cons, List.not_mem_nil, or_false] at hy
    rcases hy with rfl | rfl
    · exact ⟨1, rfl, .inl rfl⟩
    · exact ⟨-1, rfl, .inr rfl⟩
  refine ⟨(1 + r) * z, d3, ?_, ?_, ?_, h3⟩
  · rw [run1 tb_law_integer rfl]
    have l10 : Nat.log2 10 = 3 := by decide
    simp [b_law_integer, binI, line, e1, e2, e3, om z hz, l10]
  · rcases hz with rfl | rfl <;> omega
  · rcases hz with rfl | rfl <;> omega
theorem drawn (n : Nat) {m : Nat} {d : PV} (hd : DK m d) (hm : m ≤ 8000) : ∃ (r : Rat) (d' : PV), runF tb (n + 4) 27 [.own false d] = .ok (.val (qv r)) [.own false d'] ∧ QB 70 r ∧ DK (m + 7) d' := by
  obtain ⟨i, d1, e1, i0, i1, h1⟩ := roll (n + 2) 6 hd (by omega) (by decide) (by decide)
  rw [run1 tb_law_drawn rfl]
  by_cases hi : i = 0
  · subst hi
    exact ⟨0, d1, by simp [b_law_drawn, e1, line]; rfl, qb0.mono (by decide), h1.mono (by omega)⟩
  · obtain ⟨a, d2, e2, a0, a1, h2⟩ := integer n h1 (by omega)
    obtain ⟨b, d3, e3, b0, b1, h3⟩ := integer n h2 (by omega)
    have z1 : sz a ≤ 70 := siz_lt (by omega)
    have z2 : sz (b.natAbs : Int) ≤ 70 := siz_lt (by omega)
    have q := law_fr (n + 2) a b.natAbs (by omega) (Nat.le_trans z1 (by decide)) (Nat.le_trans z2 (by decide))
    refine ⟨_, d3, ?_, qb_div z1 z2 (by omega), h3.mono (by omega)⟩
    simp [b_law_drawn, e1, e2, e3, hi, nab, q]
end K21

namespace K21
open PySem Mp
theorem lc_drawn (n : Nat) (a1 a2 a3 a4 a5 a6 a7 a8 a9 b1 b2 b3 b4 : Slot) : ∀ (xs : List PV) (k m : Nat) (acc : List PV) (d : PV), DK m d → m + xs.length * 7 ≤ 7000 → k + xs.length ≤ line →
    ∃ (rs : List Rat) (d' : PV), lcGo [9] (.nm 9) (evT (runF tb (n + 4)) tb []) (evE (runF tb (n + 4)) tb (.cal 27 [.bor 0])) xs k acc [.own false d, a1, a2, a3, a4, a5, a6, a7, a8, a9, b1, b2, b3, b4] = .ok (acc.reverse ++ rs.map qv) [.own false d', a1, a2, a3, a4, a5, a6, a7, a8, a9, b1, b2, b3, b4] ∧ rs.length = xs.length ∧ (∀ r ∈ rs, QB 70 r) ∧ DK (m + xs.length * 7) d'
  | [], k, m, acc, d, hd, _, _ => ⟨[], d, by simp [lcGo], rfl, fun _ h => (by cases h), by simpa using hd⟩
  | x :: xs, k, m, acc, d, hd, hm, hk => by
    rw [List.length_cons, Nat.succ_mul] at hm
    rw [List.length_cons] at hk
    obtain ⟨r, d1, e, q, h1⟩ := drawn n hd (by omega)
    obtain ⟨rs, d', e2, l2, q2, h2⟩ := lc_drawn n a1 a2 a3 a4 a5 a6 a7 a8 a9 b1 b2 b3 b4 xs (k + 1) (m + 7) (qv r :: acc) d1 h1 (by omega) (by omega)
    refine ⟨r :: rs, d', ?_, by simp [l2], fun y hy => ?_, ?_⟩
    · rw [lcGo]
      simp [wipeP, backP, e]
      rw [if_pos (by omega), e2]
      simp
    · rcases List.mem_cons.mp hy with rfl | hy
      · exact q
      · exact q2 y hy
    · rw [List.length_cons, Nat.succ_mul]
      exact h2.mono (by omega)
theorem sum_rev (rs : List Rat) : rs.reverse.sum = rs.sum := by
  induction rs with
  | nil => rfl
  | cons r rs ih => rw [List.reverse_cons, List.sum_append, ih, List.sum_cons, List.sum_cons, List.sum_nil]; grind
def st (k : Nat) : CS := b_law_right.getD k .pas
theorem st_all : b_law_right = [st 0, st 1, st 2, st 3, st 4, st 5, st 6, st 7, st 8, st 9, st 10, st 11, st 12, st 13, st 14] := rfl
section
variable (n : Nat) {r1 r2 r3 : Rat} (q1 : QB 70 r1) (q2 : QB 70 r2) (q3 : QB 70 r3)
theorem step0 {m : Nat} {d : PV} (hd : DK m d) (hm : m ≤ 5000) : ∃ (r1 r2 r3 : Rat) (d' : PV), exS (runF tb (n + 7)) tb (st 0) [.own false d, .un, .un, .un, .un, .un, .un, .un, .un, .un, .un, .un, .un, .un] = .nx [.own false d', .pv (qv r1), .pv (qv r2), .pv (qv r3), .un, .un, .un, .un, .un, .un, .un, .un, .un, .un] ∧ QB 70 r1 ∧ QB 70 r2 ∧ QB 70 r3 ∧ DK (m + 21) d' := by
  obtain ⟨r1, d1, e1, q1, h1⟩ := drawn (n + 3) hd (by omega)
  obtain ⟨r2, d2, e2, q2, h2⟩ := drawn (n + 3) h1 (by omega)
  obtain ⟨r3, d3, e3, q3, h3⟩ := drawn (n + 3) h2 (by omega)
  refine ⟨r1, r2, r3, d3, ?_, q1, q2, q3, h3.mono (by omega)⟩
  simp [st, b_law_right, e1, e2, e3]
include q1 q2 in
theorem step1 (d : PV) (x5 x6 x7 x8 x9 y1 y2 y3 y4 : Slot) : exS (runF tb (n + 7)) tb (st 1) [.own false d, .pv (qv r1), .pv (qv r2), .pv (qv r3), .un, x5, x6, x7, x8, x9, y1, y2, y3, y4] = .nx [.own false d, .pv (qv r1), .pv (qv r2), .pv (qv r3), .own true (.lst [qv (r1 + r2), qv (r1 - r2), qv (r1 * r2), qv r1]), x5, x6, x7, x8, x9, y1, y2, y3, y4] := by
  have a1 := plus (n + 3) (q1.mono (by decide : 70 ≤ 3000)) (q2.mono (by decide))
  have a2 := minus (n + 3) (q1.mono (by decide : 70 ≤ 3000)) (q2.mono (by decide))
  have a3 := times (n + 3) (q1.mono (by decide : 70 ≤ 3000)) (q2.mono (by decide))
  have b : QB 141 (r1 - r2) := by rw [Rat.sub_eq_add_neg]; exact qb_add q1 (qb_neg q2)
  have a4 := plus (n + 3) (b.mono (by decide : 141 ≤ 3000)) (q2.mono (by decide))
  rw [show r1 - r2 + r2 = r1 by grind] at a4
  simp [st, b_law_right, a1, a2, a3, a4, line]
include q1 q2 in
theorem step2 (d : PV) (x5 x6 x7 x8 x9 y1 y2 y3 y4 : Slot) : exS (runF tb (n + 7)) tb (st 2) [.own false d, .pv (qv r1), .pv (qv r2), .pv (qv r3), .own true (.lst [qv (r1 + r2), qv (r1 - r2), qv (r1 * r2), qv r1]), x5, x6, x7, x8, x9, y1, y2, y3, y4] = .nx [.own false d, .pv (qv r1), .pv (qv r2), .pv (qv r3), .own true (.lst [qv (r1 + r2), qv (r1 - r2), qv (r1 * r2), qv r1]), x5, x6, x7, x8, x9, y1, y2, y3, y4] := by
  have a1 := law_plus (n + 5) (q1.mono (by decide : 70 ≤ 3000)) (q2.mono (by decide))
  have a2 := law_minus (n + 5) (q1.mono (by decide : 70 ≤ 3000)) (q2.mono (by decide))
  have a3 := law_times (n + 5) (q1.mono (by decide : 70 ≤ 3000)) (q2.mono (by decide))
  have b : QB 141 (r1 - r2) := by rw [Rat.sub_eq_add_neg]; exact qb_add q1 (qb_neg q2)
  have rp : biV .repr [.lst [qv (r1 + r2), qv (r1 - r2), qv (r1 * r2), qv r1]] = _ := repr_qs (rs := [r1 + r2, r1 - r2, r1 * r2, r1]) (fun r hr => by
    simp only [List.mem_cons, List.not_mem_nil, or_false] at hr
    rcases hr with rfl | rfl | rfl | rfl
    · exact (qb_add q1 q2).mono (by decide)
    · exact b.mono (by decide)
    · exact (qb_mul q1 q2).mono (by decide)
    · exact q1.mono (by decide)) (by simp)
  simp [st, b_law_right, a1, a2, a3, line, rp]
include q1 q2 in
theorem step3 (d : PV) (x4 x6 x7 x8 x9 y1 y2 y3 y4 : Slot) : ∃ x5, exS (runF tb (n + 7)) tb (st 3) [.own false d, .pv (qv r1), .pv (qv r2), .pv (qv r3), x4, .un, x6, x7, x8, x9, y1, y2, y3, y4] = .nx [.own false d, .pv (qv r1), .pv (qv r2), .pv (qv r3), x4, x5, x6, x7, x8, x9, y1, y2, y3, y4] := by
  by_cases h0 : r2.num = 0
  · exact ⟨.un, by simp [st, b_law_right, h0]⟩
  · have hr2 : r2 ≠ 0 := fun e => h0 (by rw [e]; rfl)
    have Q1 : QB 3000 r1 := q1.mono (by decide)
    have Q2 : QB 3000 r2 := q2.mono (by decide)
    have m1 := ok_mul (a := r1.num) (b := r2.den) (Nat.le_trans q1.n (by decide)) (Nat.le_trans q2.d (by decide))
    have m2 := ok_mul (a := r1.den) (b := r2.num) (Nat.le_trans q1.d (by decide)) (Nat.le_trans q2.n (by decide))
    have z1 : sz (r1.num * r2.den) ≤ 140 := Nat.le_trans (sz_mul _ _) (Nat.add_le_add q1.n q2.d)
    have z2 : sz (r1.den * r2.num : Int) ≤ 140 := Nat.le_trans (sz_mul _ _) (Nat.add_le_add q1.d q2.n)
    have nz : (r1.den * r2.num : Int) ≠ 0 := Int.mul_ne_zero (den_ne r1) h0
    have a1 := law_fr (n + 6) (r1.num * r2.den) (r1.den * r2.num) nz (Nat.le_trans z1 (by decide)) (Nat.le_trans z2 (by decide))
    have qd : QB 140 (r1 / r2) := by rw [← rat_div r1 r2 hr2]; exact qb_div z1 z2 nz
    rw [rat_div r1 r2 hr2] at a1
    have a2 := over (n + 3) Q1 Q2 hr2
    have a3 := times (n + 3) (qd.mono (by decide : 140 ≤ 3000)) Q2
    rw [show r1 / r2 * r2 = r1 by rw [Rat.div_def, Rat.mul_assoc, Rat.mul_comm r2⁻¹, Rat.mul_inv_cancel _ hr2, Rat.mul_one]] at a3
    have rp := repr_q (qd.mono (by decide : 140 ≤ 1900))
    exact ⟨.pv (qv (r1 / r2)), by simp [st, b_law_right, h0, binI, m1, m2, a1, a2, a3, rp]⟩
include q1 q2 in
theorem step4 (d : PV) (x4 x5 x8 x9 y1 y2 y3 y4 : Slot) : exS (runF tb (n + 7)) tb (st 4) [.own false d, .pv (qv r1), .pv (qv r2), .pv (qv r3), x4, x5, .un, .un, x8, x9, y1, y2, y3, y4] = .nx [.own false d, .pv (qv r1), .pv (qv r2), .pv (qv r3), x4, x5, .pv (.int (r1.num * r2.den)), .pv (.int (r2.num * r1.den)), x8, x9, y1, y2, y3, y4] := by
  have m1 := ok_mul (a := r1.num) (b := r2.den) (Nat.le_trans q1.n (by decide)) (Nat.le_trans q2.d (by decide))
  have m2 := ok_mul (a := r2.num) (b := r1.den) (Nat.le_trans q2.n (by decide)) (Nat.le_trans q1.d (by decide))
  simp [st, b_law_right, binI, m1, m2]
include q1 q2 in
theorem step5 (d : PV) (x4 x5 x8 x9 y1 y2 y3 y4 : Slot) : exS (runF tb (n + 7)) tb (st 5) [.own false d, .pv (qv r1), .pv (qv r2), .pv (qv r3), x4, x5, .pv (.int (r1.num * r2.den)), .pv (.int (r2.num * r1.den)), x8, x9, y1, y2, y3, y4] = .nx [.own false d, .pv (qv r1), .pv (qv r2), .pv (qv r3), x4, x5, .pv (.int (r1.num * r2.den)), .pv (.int (r2.num * r1.den)), x8, x9, y1, y2, y3, y4] := by
  have a1 := compared (n + 3) (q1.mono (by decide : 70 ≤ 3000)) (q2.mono (by decide))
  have a2 := compared (n + 3) (q1.mono (by decide : 70 ≤ 3000)) (q1.mono (by decide))
  simp at a2
  simp [st, b_law_right, binI, a1, a2]
include q1 q2 q3 in
theorem step6 (d : PV) (x4 x5 x6 x7 x8 x9 y1 y2 y3 y4 : Slot) : exS (runF tb (n + 7)) tb (st 6) [.own false d, .pv (qv r1), .pv (qv r2), .pv (qv r3), x4, x5, x6, x7, x8, x9, y1, y2, y3, y4] = .nx [.own false d, .pv (qv r1), .pv (qv r2), .pv (qv r3), x4, x5, x6, x7, x8, x9, y1, y2, y3, y4] := by
  have a1 := plus (n + 3) (q1.mono (by decide : 70 ≤ 3000)) (q2.mono (by decide))
  have a2 := times (n + 3) ((qb_add q1 q2).mono (by decide : _ ≤ 3000)) (q3.mono (by decide))
  have a3 := times (n + 3) (q1.mono (by decide : 70 ≤ 3000)) (q3.mono (by decide))
  have a4 := times (n + 3) (q2.mono (by decide : 70 ≤ 3000)) (q3.mono (by decide))
  have a5 := plus (n + 3) ((qb_mul q1 q3).mono (by decide : _ ≤ 3000)) ((qb_mul q2 q3).mono (by decide))
  have e : (r1 + r2) * r3 = r1 * r3 + r2 * r3 := by grind
  simp [st, b_law_right, a1, a2, a3, a4, a5, e]
end
end K21

namespace K21
open PySem Mp
section
variable (n : Nat) {r1 r2 r3 : Rat} (q1 : QB 70 r1)
theorem step7 {m : Nat} {d : PV} (hd : DK m d) (hm : m ≤ 5000) (x1 x2 x3 x4 x5 x6 x7 y1 y2 y3 y4 : Slot) : ∃ (rs : List Rat) (d' : PV), exS (runF tb (n + 7)) tb (st 7) [.own false d, x1, x2, x3, x4, x5, x6, x7, .un, .un, y1, y2, y3, y4] = .nx [.own false d', x1, x2, x3, x4, .pv (qv 0), x6, x7, .own true (.lst (rs.map qv)), .un, y1, y2, y3, y4] ∧ rs.length ≤ 5 ∧ (∀ r ∈ rs, QB 70 r) ∧ DK (m + 43) d' := by
  obtain ⟨i, d1, e1, i0, i1, h1⟩ := roll (n + 6) 6 hd (by omega) (by decide) (by decide)
  obtain ⟨j, rfl⟩ : ∃ j : Nat, i = j := ⟨i.toNat, by omega⟩
  obtain ⟨rs, d2, e2, l2, q2, h2⟩ := lc_drawn (n + 3) x1 x2 x3 x4 x5 x6 x7 .un .un y1 y2 y3 y4 ((List.range j).map fun (i : Nat) => PV.int i) 0 (m + 1) [] d1 h1 (by simp; omega) (by simp; unfold line; omega)
  simp at l2
  refine ⟨rs, d2, ?_, by omega, q2, h2.mono (by simp; omega)⟩
  have lc := v_lc' (runF tb (n + 7)) tb [.own false d, x1, x2, x3, x4, x5, x6, x7, .un, .un, y1, y2, y3, y4] (own := [9]) (tg := .nm 9) (k := .rng) (src := [.cal 20 [.bor 0, .cst (.int 6)]]) (ifs := []) (e := .cal 27 [.bor 0]) (rs := [.val (.int j)]) (l := [.int j])
    (s1 := [.own false d1, x1, x2, x3, x4, x5, x6, x7, .un, .un, y1, y2, y3, y4]) (by simp [e1]) rfl (it_rngN j (by omega))
  rw [e2] at lc
  have z : qv 0 = .tup [.int 0, .int 1] := rfl
  have s0 : evEs (runF tb (n + 7)) tb [(.lc [9] (.nm 9) .rng [(.cal 20 [(.bor 0), (.cst (.int 6))])] [] (.cal 27 [(.bor 0)])), (.tup [(.cst (.int 0)), (.cst (.int 1))])] [.own false d, x1, x2, x3, x4, x5, x6, x7, .un, .un, y1, y2, y3, y4] = .ok [.frs (.lst (rs.map qv)), .val (qv 0)] [.own false d2, x1, x2, x3, x4, x5, x6, x7, .un, .un, y1, y2, y3, y4] := by
    rw [vs_cons, lc]
    simp [line, z]
  show exS (runF tb (n + 7)) tb (.par [8, 5] [(.lc [9] (.nm 9) .rng [(.cal 20 [(.bor 0), (.cst (.int 6))])] [] (.cal 27 [(.bor 0)])), (.tup [(.cst (.int 0)), (.cst (.int 1))])]) _ = _
  rw [x_par, s0]
  simp
theorem step8 (d : PV) (rs : List Rat) (hl : rs.length ≤ 5) (hr : ∀ r ∈ rs, QB 70 r) (x1 x2 x3 x4 x6 x7 x9 y1 y2 y3 y4 : Slot) : ∃ y, exS (runF tb (n + 7)) tb (st 8) [.own false d, x1, x2, x3, x4, .pv (qv 0), x6, x7, .own true (.lst (rs.map qv)), x9, y1, y2, y3, y4] = .nx [.own false d, x1, x2, x3, x4, .pv (qv rs.sum), x6, x7, .pv (.lst (rs.map qv)), x9, y, y2, y3, y4] := by
  obtain ⟨y, e, _⟩ := fold_loop (two_lplus (n + 5)) (a := 5) (it := 10) (by decide) rs [.own false d, x1, x2, x3, x4, .pv (qv 0), x6, x7, .pv (.lst (rs.map qv)), x9, y1, y2, y3, y4] 0 1 hr qb0 (by omega) (by decide) rfl (by simp)
  rw [Rat.zero_add] at e
  refine ⟨y, ?_⟩
  show exS (runF tb (n + 7)) tb (.fro (.nm 10) .val [(.var 8)] [.asg (.nm 5) (.cal 23 [(.var 5), (.var 10)])]) _ = _
  rw [x_fro' (runF tb (n + 7)) tb _ (rs := [.val (.lst (rs.map qv))]) (l := [.lst (rs.map qv)]) (xs := rs.map qv) (s1 := [.own false d, x1, x2, x3, x4, .pv (qv 0), x6, x7, .pv (.lst (rs.map qv)), x9, y1, y2, y3, y4]) (by simp) rfl rfl, e]
  simp
theorem step9 (d : PV) (rs : List Rat) (hl : rs.length ≤ 5) (hr : ∀ r ∈ rs, QB 70 r) (x1 x2 x3 x4 x6 x7 x9 y1 y2 y3 y4 : Slot) : exS (runF tb (n + 7)) tb (st 9) [.own false d, x1, x2, x3, x4, .pv (qv rs.sum), x6, x7, .pv (.lst (rs.map qv)), x9, y1, y2, y3, y4] = .nx [.own false d, x1, x2, x3, x4, .pv (qv rs.sum), x6, x7, .pv (.lst (rs.map qv)), x9, y1, y2, y3, y4] := by
  have a1 := total (n + 2) rs hr (by omega) (by decide)
  have a2 := total (n + 2) rs.reverse (l := 70) (fun r h => hr r (by simpa using h)) (by rw [List.length_reverse]; omega) (by decide)
  rw [sum_rev, List.map_reverse] at a2
  simp [st, b_law_right, a1, a2]
theorem step10 {m : Nat} {d : PV} (hd : DK m d) (hm : m ≤ 5000) (x1 x2 x3 x4 x5 x6 x7 x8 x9 y1 y3 y4 : Slot) : ∃ (j : Nat) (d' : PV), exS (runF tb (n + 7)) tb (st 10) [.own false d, x1, x2, x3, x4, x5, x6, x7, x8, x9, y1, .un, y3, y4] = .nx [.own false d', x1, x2, x3, x4, .pv (qv 1), x6, x7, x8, x9, y1, .pv (.int j), y3, y4] ∧ j ≤ 6 ∧ DK (m + 1) d' := by
  obtain ⟨i, d1, e1, i0, i1, h1⟩ := roll (n + 6) 7 hd (by omega) (by decide) (by decide)
  obtain ⟨j, rfl⟩ : ∃ j : Nat, i = j := ⟨i.toNat, by omega⟩
  refine ⟨j, d1, ?_, by omega, h1⟩
  have z : qv 1 = .tup [.int 1, .int 1] := rfl
  simp [st, b_law_right, e1, line, z]
include q1 in
theorem step11 (d : PV) (j : Nat) (hj : j ≤ 6) (x2 x3 x4 x6 x7 x8 x9 y1 y3 y4 : Slot) : ∃ y, exS (runF tb (n + 7)) tb (st 11) [.own false d, .pv (qv r1), x2, x3, x4, .pv (qv 1), x6, x7, x8, x9, y1, .pv (.int j), y3, y4] = .nx [.own false d, .pv (qv r1), x2, x3, x4, .pv (qv (r1 ^ j)), x6, x7, x8, y, y1, .pv (.int j), y3, y4] := by
  obtain ⟨y, e, _⟩ := pow_loop (two_ltimes (n + 5)) (a := 5) (it := 9) (o := 1) (by decide) (by decide) (by decide) q1 (by decide) ((List.range j).map fun (i : Nat) => PV.int i) [.own false d, .pv (qv r1), x2, x3, x4, .pv (qv 1), x6, x7, x8, x9, y1, .pv (.int j), y3, y4] 1 1 qb1 (by simp; omega) rfl rfl (by simp)
  rw [List.length_map, List.length_range, Rat.one_mul] at e
  refine ⟨y, ?_⟩
  show exS (runF tb (n + 7)) tb (.fro (.nm 9) .rng [(.var 11)] [.asg (.nm 5) (.cal 24 [(.var 5), (.var 1)])]) _ = _
  rw [x_fro' (runF tb (n + 7)) tb _ (rs := [.val (.int j)]) (l := [.int j]) (s1 := [.own false d, .pv (qv r1), x2, x3, x4, .pv (qv 1), x6, x7, x8, x9, y1, .pv (.int j), y3, y4]) (by simp) rfl (it_rngN j (by omega)), e]
  simp
end
end K21

namespace K21
open PySem Mp
theorem step12 (n : Nat) {r1 : Rat} (q1 : QB 70 r1) (d : PV) (j : Nat) (hj : j ≤ 6) (x2 x3 x4 x6 x7 x8 x9 y1 y3 y4 : Slot) : exS (runF tb (n + 7)) tb (st 12) [.own false d, .pv (qv r1), x2, x3, x4, .pv (qv (r1 ^ j)), x6, x7, x8, x9, y1, .pv (.int j), y3, y4] = .nx [.own false d, .pv (qv r1), x2, x3, x4, .pv (qv (r1 ^ j)), x6, x7, x8, x9, y1, .pv (.int j), y3, y4] := by
  have a1 := power (n + 3) j q1 (by omega) (by decide) (by omega)
  have a2 := power (n + 3) 0 q1 (by omega) (by decide) (by omega)
  rw [Rat.pow_zero] at a2
  have z : PV.tup [.int 1, .int 1] = qv 1 := rfl
  have c0 : ((0 : Nat) : Int) = 0 := rfl
  rw [c0] at a2
  simp [st, b_law_right, a1, a2, line, z]
theorem integer_sz {i : Int} (h : (i.natAbs : Int) ≤ 10 ^ 19) : sz i ≤ 64 := siz_lt (by omega)
theorem step13 (n : Nat) {m : Nat} {d : PV} (hd : DK m d) (hm : m ≤ 5000) (x1 x2 x3 x4 x5 x6 x7 x8 x9 y1 y2 : Slot) : ∃ (a b : Int) (d' : PV), exS (runF tb (n + 7)) tb (st 13) [.own false d, x1, x2, x3, x4, x5, x6, x7, x8, x9, y1, y2, .un, .un] = .nx [.own false d', x1, x2, x3, x4, x5, x6, x7, x8, x9, y1, y2, .pv (.int a), .pv (.int b)] ∧ (a.natAbs : Int) ≤ 10 ^ 19 ∧ b ≠ 0 ∧ (b.natAbs : Int) ≤ 10 ^ 19 ∧ DK (m + 7) d' := by
  obtain ⟨i, d1, e1, i0, i1, h1⟩ := integer (n + 4) hd (by omega)
  obtain ⟨x, d2, e2, hx, h2⟩ := pick (n + 5) [.int 0, .int i] h1 (by omega) (by simp) (by simp)
  obtain ⟨b, d3, e3, b0, b1, h3⟩ := integer (n + 4) h2 (by omega)
  obtain ⟨a, rfl, ha⟩ : ∃ a : Int, x = .int a ∧ (a.natAbs : Int) ≤ 10 ^ 19 := by
    simp only [List.mem_cons, List.not_mem_nil, or_false] at hx
    rcases hx with rfl | rfl
    · exact ⟨0, rfl, by decide⟩
    · exact ⟨i, rfl, i1⟩
  refine ⟨a, b, d3, ?_, ha, b0, b1, h3.mono (by omega)⟩
  simp [st, b_law_right, e1, e2, e3, line]
theorem step14 (n : Nat) (d : PV) {a b : Int} (ha : (a.natAbs : Int) ≤ 10 ^ 19) (b0 : b ≠ 0) (hb : (b.natAbs : Int) ≤ 10 ^ 19) (x1 x2 x3 x4 x5 x6 x7 x8 x9 y1 y2 : Slot) : exS (runF tb (n + 7)) tb (st 14) [.own false d, x1, x2, x3, x4, x5, x6, x7, x8, x9, y1, y2, .pv (.int a), .pv (.int b)] = .rt (.val (.bl true)) [.own false d, x1, x2, x3, x4, x5, x6, x7, x8, x9, y1, y2, .pv (.int a), .pv (.int b)] := by
  have a1 := number (n + 4) a b b0 (by omega) (by omega)
  have a2 := number (n + 4) a 1 (by decide) (by omega) (by decide)
  have a3 := law_fr (n + 6) a b b0 (Nat.le_trans (integer_sz ha) (by decide)) (Nat.le_trans (integer_sz hb) (by decide))
  have rp := repr_q (qb_div (k := 64) (b := 1) (integer_sz ha) (by decide) (by decide) |>.mono (by decide : 64 ≤ 1900))
  have z := qv_one a
  simp [st, b_law_right, a1, a2, a3, rp, z.symm, line]
theorem right (n : Nat) {m : Nat} {d : PV} (hd : DK m d) (hm : m ≤ 4000) : ∃ d', runF tb (n + 8) 28 [.own false d] = .ok (.val (.bl true)) [.own false d'] ∧ DK (m + 72) d' := by
  obtain ⟨r1, r2, r3, d1, e0, q1, q2, q3, h1⟩ := step0 n hd (by omega)
  obtain ⟨x5, e3⟩ := step3 n q1 q2 d1 (.own true (.lst [qv (r1 + r2), qv (r1 - r2), qv (r1 * r2), qv r1])) .un .un .un .un .un .un .un .un
  obtain ⟨rs, d2, e7, hl, hr, h2⟩ := step7 n h1 (by omega) (.pv (qv r1)) (.pv (qv r2)) (.pv (qv r3)) (.own true (.lst [qv (r1 + r2), qv (r1 - r2), qv (r1 * r2), qv r1])) x5 (.pv (.int (r1.num * r2.den))) (.pv (.int (r2.num * r1.den))) .un .un .un .un
  obtain ⟨y1, e8⟩ := step8 n d2 rs hl hr (.pv (qv r1)) (.pv (qv r2)) (.pv (qv r3)) (.own true (.lst [qv (r1 + r2), qv (r1 - r2), qv (r1 * r2), qv r1])) (.pv (.int (r1.num * r2.den))) (.pv (.int (r2.num * r1.den))) .un .un .un .un .un
  obtain ⟨j, d3, e10, hj, h3⟩ := step10 n h2 (by omega) (.pv (qv r1)) (.pv (qv r2)) (.pv (qv r3)) (.own true (.lst [qv (r1 + r2), qv (r1 - r2), qv (r1 * r2), qv r1])) (.pv (qv rs.sum)) (.pv (.int (r1.num * r2.den))) (.pv (.int (r2.num * r1.den))) (.pv (.lst (rs.map qv))) .un y1 .un .un
  obtain ⟨y9, e11⟩ := step11 n q1 d3 j hj (.pv (qv r2)) (.pv (qv r3)) (.own true (.lst [qv (r1 + r2), qv (r1 - r2), qv (r1 * r2), qv r1])) (.pv (.int (r1.num * r2.den))) (.pv (.int (r2.num * r1.den))) (.pv (.lst (rs.map qv))) .un y1 .un .un
  obtain ⟨a, b, d4, e13, ha, b0, hb, h4⟩ := step13 n h3 (by omega) (.pv (qv r1)) (.pv (qv r2)) (.pv (qv r3)) (.own true (.lst [qv (r1 + r2), qv (r1 - r2), qv (r1 * r2), qv r1])) (.pv (qv (r1 ^ j))) (.pv (.int (r1.num * r2.den))) (.pv (.int (r2.num * r1.den))) (.pv (.lst (rs.map qv))) y9 y1 (.pv (.int j))
  refine ⟨d4, ?_, h4.mono (by omega)⟩
  have whole : exSs (runF tb (n + 7)) tb b_law_right [.own false d, .un, .un, .un, .un, .un, .un, .un, .un, .un, .un, .un, .un, .un] = .rt (.val (.bl true)) [.own false d4, .pv (qv r1), .pv (qv r2), .pv (qv r3), .own true (.lst [qv (r1 + r2), qv (r1 - r2), qv (r1 * r2), qv r1]), .pv (qv (r1 ^ j)), .pv (.int (r1.num * r2.den)), .pv (.int (r2.num * r1.den)), .pv (.lst (rs.map qv)), y9, y1, .pv (.int j), .pv (.int a), .pv (.int b)] := by
    rw [st_all, x_cons, e0, seq_nx, x_cons, step1 n q1 q2, seq_nx, x_cons, step2 n q1 q2, seq_nx, x_cons, e3, seq_nx, x_cons, step4 n q1 q2, seq_nx, x_cons, step5 n q1 q2, seq_nx, x_cons, step6 n q1 q2 q3, seq_nx, x_cons, e7, seq_nx, x_cons, e8, seq_nx,
      x_cons, step9 n d2 rs hl hr, seq_nx, x_cons, e10, seq_nx, x_cons, e11, seq_nx, x_cons, step12 n q1 _ j hj, seq_nx, x_cons, e13, seq_nx, x_cons, step14 n _ ha b0 hb, seq_rt]
  rw [run1 tb_law_right rfl, bo_law_right]
  show (match exSs (runF tb (n + 7)) tb b_law_right [.own false d, .un, .un, .un, .un, .un, .un, .un, .un, .un, .un, .un, .un, .un] with
    | .nx s => Rs.ok (RV.val PV.non) (outs d_law_right.mp s 0 [.own false d])
    | .rt r s => if isBor r then .no else .ok r (outs d_law_right.mp s 0 [.own false d])
    | .er x s => .er x (outs d_law_right.mp s 0 [.own false d])
    | _ => .no) = _
  rw [whole]
  simp
end K21

namespace K21
open PySem Mp
theorem dice (n : Nat) (ns : List Int) (spot : Nat) (hs : spot < 100) : ∃ d, runF tb (n + 1) 19 [.pv (.frz (ns.map PV.int)), .pv (.int spot)] = .ok (.frs d) [.pv (.frz (ns.map PV.int)), .pv (.int spot)] ∧ DK 0 d := by
  rw [run1 tb_law_dice rfl]
  have m1 : okMul 131 (spot : Int) = true := ok_mul (by decide) (Nat.le_trans (siz_lt (k := 10) (by omega)) (by decide))
  have m2 : okMul 619 (spot : Int) = true := ok_mul (by decide) (Nat.le_trans (siz_lt (k := 10) (by omega)) (by decide))
  have key : ∀ cell : Int, ∃ d, exSs (runF tb n) tb (b_law_dice.drop 1) [.pv (.frz (ns.map PV.int)), .pv (.int spot), .pv (.int cell), .un, .un] = .rt (.frs d) [.pv (.frz (ns.map PV.int)), .pv (.int spot), .pv (.int cell), .pv (.int ((cell.natAbs : Int).fmod ((10 ^ 53) ^ 6))), .pv (.int (((cell.natAbs : Int).fmod ((10 ^ 53) ^ 6)).fmod 2305843009213693907 * 73 + 619 * spot + 41 * (if cell < 0 then 1 else 0) + 17))] ∧ DK 0 d := by
    intro cell
    obtain ⟨g, hg⟩ : ∃ g : Int, (cell.natAbs : Int).fmod ((10 ^ 53) ^ 6) = g := ⟨_, rfl⟩
    have g0 : 0 ≤ g := by rw [← hg]; exact Int.fmod_nonneg_of_pos _ (by decide)
    have g1 : g < (10 ^ 53) ^ 6 := by rw [← hg]; exact Int.fmod_lt_of_pos _ (by decide)
    have g2 : sz g ≤ 1060 := siz_lt (by
      have : ((10 : Int) ^ 53) ^ 6 ≤ 2 ^ 1060 := by decide +kernel
      omega)
    obtain ⟨p, hp⟩ : ∃ p : Int, g.fmod 2305843009213693907 = p := ⟨_, rfl⟩
    have p0 : 0 ≤ p := by rw [← hp]; exact Int.fmod_nonneg_of_pos _ (by decide)
    have p1 : p < 2305843009213693907 := by rw [← hp]; exact Int.fmod_lt_of_pos _ (by decide)
    have m3 : okMul p 73 = true := ok_mul (Nat.le_trans (siz_lt (k := 62) (by omega)) (by decide)) (by decide)
    have l1 : Nat.log2 10 = 3 := by decide
    have l2 : Nat.log2 (10 ^ 53) = 176 := by decide +kernel
    have l2' : Nat.log2 100000000000000000000000000000000000000000000000000000 = 176 := by decide +kernel
    have mb : ∀ b : Bool, okMul 41 (if b = true then 1 else 0) = true := by intro b; cases b <;> decide
    have mb' : okMul 41 (if cell < 0 then 1 else 0) = true := by split <;> decide
    rw [hg, hp]
    refine ⟨.lst [.int (if g - 10 ^ 16 > 0 then g - 10 ^ 16 else 0), .int (p * 73 + 619 * spot + 41 * (if cell < 0 then 1 else 0) + 17), .int 0], ?_, ⟨_, _, _, rfl, ?_, ?_, ?_, ?_, by decide, by decide⟩⟩
    · rw [show b_law_dice.drop 1 = [b_law_dice.getD 1 .pas, b_law_dice.getD 2 .pas, b_law_dice.getD 3 .pas] from rfl]
      have hg' := hg
      simp at hg'
      have e1 : exS (runF tb n) tb (b_law_dice.getD 1 .pas) [.pv (.frz (ns.map PV.int)), .pv (.int spot), .pv (.int cell), .un, .un] = .nx [.pv (.frz (ns.map PV.int)), .pv (.int spot), .pv (.int cell), .pv (.int g), .un] := by
        simp [b_law_dice, nab, binI, l1, l2, l2', hg', hg]
      rw [x_cons, e1, seq_nx]
      simp [b_law_dice, nab, binI, l1, l2, hp, m1, m2, m3, mb, mb', line]
    · split <;> omega
    · split
      · exact Nat.le_trans (siz_mono (by omega)) (Nat.le_trans g2 (by decide))
      · decide
    · split <;> omega
    · refine Nat.le_trans (siz_lt (k := 80) ?_) (by decide)
      split <;> omega
  rw [show d_law_dice.body = b_law_dice.take 1 ++ b_law_dice.drop 1 from rfl, x_append]
  have first : ∃ cell : Int, exSs (runF tb n) tb (b_law_dice.take 1) [.pv (.frz (ns.map PV.int)), .pv (.int spot), .un, .un, .un] = .nx [.pv (.frz (ns.map PV.int)), .pv (.int spot), .pv (.int cell), .un, .un] := by
    by_cases h : spot < ns.length
    · refine ⟨ns[spot], ?_⟩
      have h2 : (spot : Int) < ns.length := by omega
      simp [b_law_dice, h]
    · refine ⟨131 * spot + 37, ?_⟩
      simp [b_law_dice, h, binI, m1]
  obtain ⟨cell, e1⟩ := first
  obtain ⟨d, e2, hd⟩ := key cell
  refine ⟨d, ?_, hd⟩
  show (match (exSs (runF tb n) tb (b_law_dice.take 1) [.pv (.frz (ns.map PV.int)), .pv (.int spot), .un, .un, .un]).seq (exSs (runF tb n) tb (b_law_dice.drop 1)) with
    | .nx s => Rs.ok (RV.val PV.non) (outs d_law_dice.mp s 0 _)
    | .rt r s => if isBor r then .no else .ok r (outs d_law_dice.mp s 0 _)
    | .er x s => .er x (outs d_law_dice.mp s 0 _)
    | _ => .no) = _
  rw [e1, seq_nx, e2]
  simp
end K21

namespace K21
open PySem Mp
/-- the three turns of a cell -/
theorem turns (n : Nat) (x0 x1 x4 x5 : Slot) : ∀ (xs : List PV) (f : Bool) (m : Nat) (d : PV) (x3 : Slot), DK m d → m + xs.length * 72 ≤ 4000 → ∃ (f' : Bool) (d' : PV) (y : Slot), frGo (.nm 3) (exSs (runF tb (n + 8)) tb [.ite (.notT (.tru (.cal 28 [(.bor 2)]))) [.ret (.cst (.bl false))] []]) xs [x0, x1, .own f d, x3, x4, x5] = .nx [x0, x1, .own f' d', y, x4, x5]
  | [], f, m, d, x3, hd, hm => ⟨f, d, x3, rfl⟩
  | x :: xs, f, m, d, x3, hd, hm => by
    rw [List.length_cons, Nat.succ_mul] at hm
    obtain ⟨d1, e, h1⟩ := right n hd (by omega)
    obtain ⟨f2, d2, y, e2⟩ := turns n x0 x1 x4 x5 xs false (m + 72) d1 (.pv x) h1 (by omega)
    refine ⟨f2, d2, y, ?_⟩
    rw [frGo]
    simp [e]
    exact e2
def cellBody : List CS := [.asg (.nm 2) (.cal 19 [(.var 0), (.var 1)]), .fro (.nm 3) .rng [(.cst (.int 3))] [.ite (.notT (.tru (.cal 28 [(.bor 2)]))) [.ret (.cst (.bl false))] []]]
theorem cells (n : Nat) (ns : List Int) (x4 x5 : Slot) : ∀ (xs : List Nat) (x1 x2 x3 : Slot), (∀ i ∈ xs, i < 100) → ∃ (y1 y2 y3 : Slot), frGo (.nm 1) (exSs (runF tb (n + 8)) tb cellBody) (xs.map fun (i : Nat) => PV.int i) [.pv (.frz (ns.map PV.int)), x1, x2, x3, x4, x5] = .nx [.pv (.frz (ns.map PV.int)), y1, y2, y3, x4, x5]
  | [], x1, x2, x3, _ => ⟨x1, x2, x3, rfl⟩
  | i :: xs, x1, x2, x3, h => by
    obtain ⟨d, e, hd⟩ := dice (n + 7) ns i (h i (by simp))
    obtain ⟨f, d', y, e2⟩ := turns n (.pv (.frz (ns.map PV.int))) (.pv (.int i)) x4 x5 ((List.range 3).map fun (i : Nat) => PV.int i) true 0 d x3 hd (by simp)
    obtain ⟨y1, y2, y3, e3⟩ := cells n ns x4 x5 xs (.pv (.int i)) (.own f d') y (fun j hj => h j (by simp [hj]))
    refine ⟨y1, y2, y3, ?_⟩
    rw [List.map_cons, frGo]
    have e1 : exSs (runF tb (n + 8)) tb cellBody [.pv (.frz (ns.map PV.int)), .pv (.int i), x2, x3, x4, x5] = .nx [.pv (.frz (ns.map PV.int)), .pv (.int i), .own f d', y, x4, x5] := by
      have e4 : exS (runF tb (n + 8)) tb (.asg (.nm 2) (.cal 19 [(.var 0), (.var 1)])) [.pv (.frz (ns.map PV.int)), .pv (.int i), x2, x3, x4, x5] = .nx [.pv (.frz (ns.map PV.int)), .pv (.int i), .own true d, x3, x4, x5] := by
        simp [e]
      unfold cellBody
      rw [x_cons, e4, seq_nx, x_cons, x_fro' (runF tb (n + 8)) tb _ (rs := [.val (.int 3)]) (l := [.int 3]) (xs := (List.range 3).map fun (i : Nat) => PV.int i) (s1 := [.pv (.frz (ns.map PV.int)), .pv (.int i), .own true d, x3, x4, x5]) (by simp) rfl (it_rngN 3 (by decide)), e2]
      simp
    simp only [Tg.store, List.length_cons, List.length_nil, List.set_cons_succ, List.set_cons_zero]
    rw [if_pos (by omega)]
    simp only [e1]
    exact e3
def rG : Rat := Rat.divInt (10 ^ 60 + 1) (10 ^ 59 + 3)
def rT : Rat := Rat.divInt 1 3
def rH : Rat := Rat.divInt (-1) 2
def rU : Rat := Rat.divInt (-1) 3
theorem cG : PV.tup [.int 1000000000000000000000000000000000000000000000000000000000001, .int 100000000000000000000000000000000000000000000000000000000003] = qv rG := by
  have h1 : rG.num = 1000000000000000000000000000000000000000000000000000000000001 := by decide +kernel
  have h2 : rG.den = 100000000000000000000000000000000000000000000000000000000003 := by decide +kernel
  rw [qv, h1, h2]; rfl
theorem cT : PV.tup [.int 1, .int 3] = qv rT := rfl
theorem cH : PV.tup [.int (-1), .int 2] = qv rH := rfl
theorem cU : PV.tup [.int (-1), .int 3] = qv rU := rfl
theorem hH : rH ^ 60 = Rat.divInt 1 1152921504606846976 := by decide +kernel
theorem cP : PV.tup [.int 1, .int 1152921504606846976] = qv (rH ^ 60) := by
  rw [hH]
  have h1 : (Rat.divInt 1 1152921504606846976).num = 1 := by decide +kernel
  have h2 : (Rat.divInt 1 1152921504606846976).den = 1152921504606846976 := by decide +kernel
  rw [qv, h1, h2]; rfl
theorem qG : QB 201 rG := qb_div (siz_lt (by decide +kernel)) (siz_lt (by decide +kernel)) (by decide)
theorem qT : QB 48 rT := qb_div (by decide) (by decide) (by decide)
theorem qH : QB 48 rH := qb_div (by decide) (by decide) (by decide)
theorem qU : QB 48 rU := qb_div (by decide) (by decide) (by decide)
theorem told1 (n : Nat) (x0 x1 x2 x3 x4 : Slot) : exSs (runF tb (n + 8)) tb (b_law.drop 1) [x0, x1, x2, x3, .un, .un] = .rt (.val (.bl true)) [x0, x1, x2, x3, .pv (qv rG), .own true (.lst [.bl true, .bl true, .tup [.int (-1), .int 1], .tup [.int (-3), .int 2], .tup [.int 0, .int 1], .int (-1)])] := by
  have a1 := plus (n + 4) (qG.mono (by decide : 201 ≤ 3000)) (qT.mono (by decide))
  have a2 := law_plus (n + 6) (qG.mono (by decide : 201 ≤ 3000)) (qT.mono (by decide))
  have a3 := power (n + 4) 60 qH (by decide) (by decide) (by decide)
  have a4 := number (n + 5) (10 ^ 39) (-(10 ^ 39)) (by decide) (by decide) (by decide)
  have a5 := number (n + 5) (-6) 4 (by decide) (by decide) (by decide)
  have a6 := total (n + 3) [] (l := 1) (fun r h => by cases h) (by decide) (by decide)
  have a7 := compared (n + 4) (qH.mono (by decide : 48 ≤ 3000)) (qU.mono (by decide))
  have b4 : qv (Rat.divInt (10 ^ 39) (-(10 ^ 39))) = .tup [.int (-1), .int 1] := rfl
  have b5 : qv (Rat.divInt (-6) 4) = .tup [.int (-3), .int 2] := rfl
  have b6 : qv ([] : List Rat).sum = .tup [.int 0, .int 1] := rfl
  have b7 : ((if rH.num * rU.den > rU.num * rH.den then 1 else 0) - (if rH.num * rU.den < rU.num * rH.den then 1 else 0) : Int) = -1 := by decide +kernel
  have l10 : Nat.log2 10 = 3 := by decide
  rw [b4] at a4
  rw [b5] at a5
  rw [b6] at a6
  rw [b7] at a7
  have c60 : ((60 : Nat) : Int) = 60 := rfl
  rw [c60] at a3
  simp at a4 a6
  have s1 : exS (runF tb (n + 8)) tb (b_law.getD 1 .pas) [x0, x1, x2, x3, .un, .un] = .nx [x0, x1, x2, x3, .pv (qv rG), .un] := by
    simp [b_law, binI, l10, line, cG]
  have s2 : exS (runF tb (n + 8)) tb (b_law.getD 2 .pas) [x0, x1, x2, x3, .pv (qv rG), .un] = .nx [x0, x1, x2, x3, .pv (qv rG), .own true (.lst [.bl true, .bl true])] := by
    simp [b_law, cT, cH, cP, a1, a2, a3, line]
  have s3 : exS (runF tb (n + 8)) tb (b_law.getD 3 .pas) [x0, x1, x2, x3, .pv (qv rG), .own true (.lst [.bl true, .bl true])] = .nx [x0, x1, x2, x3, .pv (qv rG), .own true (.lst [.bl true, .bl true, .tup [.int (-1), .int 1], .tup [.int (-3), .int 2], .tup [.int 0, .int 1], .int (-1)])] := by
    simp [b_law, cH, cU, a4, a5, a6, a7, line, binI, l10]
  have s4 : exS (runF tb (n + 8)) tb (b_law.getD 4 .pas) [x0, x1, x2, x3, .pv (qv rG), .own true (.lst [.bl true, .bl true, .tup [.int (-1), .int 1], .tup [.int (-3), .int 2], .tup [.int 0, .int 1], .int (-1)])] = .rt (.val (.bl true)) [x0, x1, x2, x3, .pv (qv rG), .own true (.lst [.bl true, .bl true, .tup [.int (-1), .int 1], .tup [.int (-3), .int 2], .tup [.int 0, .int 1], .int (-1)])] := by
    simp [b_law, line, cmp_eql, PV.dat, PV.isd, PV.isdL, PV.dep, PV.depL, PV.eqv, PV.eqvL]
  rw [show b_law.drop 1 = [b_law.getD 1 .pas, b_law.getD 2 .pas, b_law.getD 3 .pas, b_law.getD 4 .pas] from rfl, x_cons, s1, seq_nx, x_cons, s2, seq_nx, x_cons, s3, seq_nx, x_cons, s4, seq_rt]
theorem law_ok (ns : List Int) : ∃ s, runF tb 100 29 [.pv (.frz (ns.map PV.int))] = .ok (.val (.bl true)) s := by
  rw [show (100 : Nat) = 91 + 8 + 1 from rfl, run1 tb_law rfl]
  obtain ⟨k, hk⟩ : ∃ k : Nat, (if (if ((ns.map PV.int).length : Int) < 6 then ((ns.map PV.int).length : Int) else 6) > 1 then (if ((ns.map PV.int).length : Int) < 6 then ((ns.map PV.int).length : Int) else 6) else 1) = (k : Int) ∧ k ≤ 6 := by
    refine ⟨(if (if ((ns.map PV.int).length : Int) < 6 then ((ns.map PV.int).length : Int) else 6) > 1 then (if ((ns.map PV.int).length : Int) < 6 then ((ns.map PV.int).length : Int) else 6) else 1).toNat, ?_, ?_⟩
    · split <;> split <;> omega
    · split <;> split <;> omega
  obtain ⟨y1, y2, y3, e⟩ := cells 91 ns .un .un (List.range k) .un .un .un (fun i hi => by have := List.mem_range.mp hi; omega)
  have s0 : exS (runF tb (91 + 8)) tb (b_law.getD 0 .pas) [.pv (.frz (ns.map PV.int)), .un, .un, .un, .un, .un] = .nx [.pv (.frz (ns.map PV.int)), y1, y2, y3, .un, .un] := by
    show exS (runF tb (91 + 8)) tb (.fro (.nm 1) .rng [(.bui .max [(.cst (.int 1)), (.bui .min [(.cst (.int 6)), (.bui .len [(.bor 0)])])])] cellBody) _ = _
    rw [x_fro' (runF tb (91 + 8)) tb _ (rs := [.val (.int k)]) (l := [.int k]) (s1 := [.pv (.frz (ns.map PV.int)), .un, .un, .un, .un, .un]) (by simp at hk ⊢; exact hk.1) rfl (it_rngN k (by omega)), e]
  have t := told1 91 (.pv (.frz (ns.map PV.int))) y1 y2 y3 .un
  have whole : exSs (runF tb (91 + 8)) tb b_law [.pv (.frz (ns.map PV.int)), .un, .un, .un, .un, .un] = .rt (.val (.bl true)) [.pv (.frz (ns.map PV.int)), y1, y2, y3, .pv (qv rG), .own true (.lst [.bl true, .bl true, .tup [.int (-1), .int 1], .tup [.int (-3), .int 2], .tup [.int 0, .int 1], .int (-1)])] := by
    rw [show b_law = b_law.getD 0 .pas :: b_law.drop 1 from rfl, x_cons, s0, seq_nx]
    exact t
  rw [bo_law]
  show ∃ s, (match exSs (runF tb (91 + 8)) tb b_law [.pv (.frz (ns.map PV.int)), .un, .un, .un, .un, .un] with
    | .nx s => Rs.ok (RV.val PV.non) (outs d_law.mp s 0 [.pv (.frz (ns.map PV.int))])
    | .rt r s => if isBor r then .no else .ok r (outs d_law.mp s 0 [.pv (.frz (ns.map PV.int))])
    | .er x s => .er x (outs d_law.mp s 0 [.pv (.frz (ns.map PV.int))])
    | _ => .no) = .ok (.val (.bl true)) s
  rw [whole]
  exact ⟨_, rfl⟩
end K21

namespace K21
open PySem Mp
theorem rows_ok : rows.all (rowC P T) = true := by decide +kernel
abbrev R : PySem.W.OpenRow := PySem.W.OpenLaw.row PySem.Challenge.rw_anyrules_k21_whole_numbers
abbrev hk : PySem.W.Hook := He.hookX 5 (facts P rows) (rows.map (Row.dd P)) [] [] (exB T rows)
def ob (s : PySem.W.SharedT) : He.AlX := He.obsX 5 (facts P rows) (rows.map (Row.dd P)) [] [] (exB T rows) (HandSHeadRun.getT s)
theorem ob_eq (s : PySem.W.SharedT) : ob s = hk.obs s.abs := He.obsX_eq (HandSHeadRun.getT_eq s)
theorem run (w : World) : HandSHeadRun.RunEq R (PySem.W.view R.prog [40]) hk ob 2000 loose w := by
  intro os
  kernel_rfl
end K21

open PySem PySem.W PySem.Calls PyProof.Rows
theorem PySem.Challenge.cw_anyrules_k21_whole_numbers_holds : PySem.Challenge.rw_anyrules_k21_whole_numbers.Holds := by
  w_on; o_law
  refine HandSHeadRun.head_any (r := OpenLaw.row PySem.Challenge.rw_anyrules_k21_whole_numbers) (q := view (OpenLaw.row PySem.Challenge.rw_anyrules_k21_whole_numbers).prog [40]) (H := K21.hk) (ob := K21.ob) (M := 2000) (loose := K21.loose) (d := HandSHeadRun.topDef (OpenLaw.row PySem.Challenge.rw_anyrules_k21_whole_numbers).prog 40) (kwd := []) K21.ob_eq
    (by kernel_rfl) (fun s => by kernel_rfl) K21.run (by kernel_rfl) (by kernel_rfl) (by kernel_rfl) (by rfl) (by first | assumption | decide +kernel) (by decide +kernel) ⟨rfl, rfl, rfl, rfl, rfl, by decide +kernel⟩ ?hw ?hc
  case hw => w_witness2
  case hc => exact Mp.law_walk (l := PySem.Challenge.rw_anyrules_k21_whole_numbers) (rs := K21.rows) (T := K21.T) (gL := 29) (k := 100) (n := 5) rfl rfl K21.rows_ok K21.binds rfl rfl rfl rfl rfl ⟨rfl, by decide, by decide⟩ fun ns _ _ => K21.law_ok ns

