import PyProof.Rows.All
import Wide.All
import OpenK.AllK
import Wide.FinOn
import HandS.ForMost
import HandS.TupAny
import HandS.TupMul
import HandS.WideBits
import HandS.IsInst
import HandS.Style
import HandS.Conv
import HandS.RaiseMore
import HandS.Walk
import HandS.Zip
import HandS.Exc
import HandS.Star
import HandS.NoneIn
import KE.GoesMore
import HandS.Defaults
import HandS.Ends
import HandS.Words
import PySem.Challenge.RW_handbetween_k24_whole_common_words
set_option Elab.async false
set_option linter.all false
set_option maxRecDepth 100000
/-! EV, part A: data, the small language, its evaluator. Plain functions, no program in sight. -/
namespace EV
open PySem L2
/-- data: what a Python value is, without addresses -/
inductive D where
  | non | bl (b : Bool) | int (i : Int) | str (x : Str) | obj (k : Nat)
  | tup (xs : List D) | lst (xs : List D) | scr (xs : List D)
  deriving Inhabited
mutual
def toPy : D → Option PyData
  | .non => some .none
  | .bl b => some (.bool b)
  | .int i => some (.int i)
  | .str x => some (.str x)
  | .obj _ => none
  | .tup xs => (toPys xs).map .tuple
  | .lst xs => (toPys xs).map .list
  | .scr _ => none
def toPys : List D → Option (List PyData)
  | [] => some []
  | x :: xs => (toPy x).bind fun p => (toPys xs).map (p :: ·)
end
/-- what a slot may hold: data, or a changing object of the store -/
inductive Vl where
  | dat (d : D) | loc (n : Nat)
  deriving Inhabited
/-- a cell of the store: empty, or a list -/
inductive MO where
  | nil | lst (xs : List D)
  deriving Inhabited
abbrev Sto := List MO
abbrev Slots := List (Option Vl)
/-- an exception in flight: its class by number, what it keeps -/
structure Xc where
  cls : Nat
  arg : Option D
inductive R (α : Type) where
  | ok (a : α) (m : Sto) | exc (x : Xc) (m : Sto) | bad
def R.bind {α β : Type} : R α → (α → Sto → R β) → R β
  | .ok a m, f => f a m
  | .exc x m, _ => .exc x m
  | .bad, _ => .bad
theorem R.bind_ok {α β : Type} (a : α) (m : Sto) (f : α → Sto → R β) : (R.ok a m).bind f = f a m := rfl
def R.ofO {α : Type} (o : Option α) (m : Sto) : R α := match o with | some a => .ok a m | none => .bad
/-- what a def hands back: a value, or a list that nobody else holds -/
inductive RV where
  | vl (v : Vl) | new (xs : List D)
abbrev Cal := Nat → List Vl → Sto → R RV

/-! ### the language -/
inductive Tg where
  | nm (i : Nat) | tp (ts : List Tg)
inductive IK where
  | seq | rng1 | rng2 | enum | zip
  deriving DecidableEq
inductive SK where
  | both | lo | hi | no
  deriving DecidableEq
inductive Bt where
  | len | abs | int | bool | max2 | min2 | tuple | list | all | any | repr | sum | max1 | min1
  deriving DecidableEq
mutual
inductive Ex where
  | var (i : Nat) | cst (d : D) | glo (g : Nat)
  | tup (es : List Ex) | lst (es : List Ex)
  | bin (op : Operator) (a b : Ex) | neg (a : Ex) | nt (a : Ex)
  | cmp (op : CmpOp) (a b : Ex) | chain (op op' : CmpOp) (a b c : Ex)
  | andl (es : List Ex) | orl (es : List Ex)
  | ite (c : Tx) (a b : Ex)
  | sub (a i : Ex) | slc (k : SK) (a : Ex) (es : List Ex) | rev (a : Ex)
  | call (k : Nat) (es : List Ex) | blt (b : Bt) (es : List Ex) | isi (a : Ex) (t : String)
  | comp (tg : Tg) (ik : IK) (src : List Ex) (ifs : List Tx) (elt : Ex)
  | lsts (fl : List Bool) (es : List Ex)
/-- a test -/
inductive Tx where
  | val (e : Ex) | cmp (op : CmpOp) (a b : Ex) | chain (op op' : CmpOp) (a b c : Ex) | nt (t : Tx) | andl (ts : List Tx) | orl (ts : List Tx)
end
inductive St where
  | set (tg : Tg) (e : Ex)
  | par (ts : List Nat) (es : List Ex)
  | newl (i c : Nat) (e : Ex)
  | sset (i : Nat) (ix e : Ex)
  | app (i : Nat) (e : Ex)
  | frz (i : Nat)
  | aug (i : Nat) (op : Operator) (e : Ex)
  | ife (c : Tx) (a b : List St) | whl (c : Tx) (b : List St)
  | fort (tg : Tg) (ik : IK) (src : List Ex) (b : List St)
  | ret (e : Ex) | retn | retf (e : Ex)
  | brk | ctn | pas | exp (e : Ex) | never

/-! ### operations on data -/
/-- a value as data, a changing list by what it holds now -/
def look (m : Sto) : Vl → Option D
  | .dat d => some d
  | .loc n => match m[n]? with
    | some (.lst xs) => some (.lst xs)
    | _ => none
def mulOk (i j : Int) : Bool := decide (i.natAbs.log2 + j.natAbs.log2 < 100000000)
def szOk (n : Nat) : Bool := decide (n ≤ sizeLine)
/-- many times a list -/
def times {α : Type} (n : Nat) (xs : List α) : List α := (List.replicate n xs).flatten
theorem times_nil {α : Type} (n : Nat) : times n ([] : List α) = [] := by
  unfold times
  induction n with
  | zero => rfl
  | succ n ih => rw [List.replicate_succ, List.flatten_cons, ih]; rfl
theorem times_one {α : Type} (xs : List α) : times 1 xs = xs := by
  simp [times]
def binD : Operator → D → D → Option D
  | .Add, .int i, .int j => some (.int (i + j))
  | .Add, .str x, .str y => if szOk (x.length + y.length) then some (.str (x ++ y)) else none
  | .Add, .tup xs, .tup ys => if szOk (xs.length + ys.length) then some (.tup (xs ++ ys)) else none
  | .Add, .lst xs, .lst ys => if szOk (xs.length + ys.length) then some (.lst (xs ++ ys)) else none
  | .Sub, .int i, .int j => some (.int (i - j))
  | .Mult, .int i, .int j => if mulOk i j then some (.int (i * j)) else none
  | .Mult, .tup xs, .int j => if -1000 ≤ j && j ≤ 1000 && decide (xs.length ≤ 1000) then some (.tup (times j.toNat xs)) else none
  | .Mult, .lst xs, .int j => if -16777216 < j && j < 16777216 && szOk (xs.length * j.toNat) then some (.lst (times j.toNat xs)) else none
  | .FloorDiv, .int i, .int j => if j = 0 then none else if Builtin.divisionGoesByPylong i j then none else some (.int (i.fdiv j))
  | .Mod, .int i, .int j => if j = 0 then none else some (.int (i.fmod j))
  | .Pow, .int i, .int j => if 0 ≤ j && decide ((Builtin.Int.intBits i : Int) * j ≤ 100000) then some (.int (i ^ j.toNat)) else none
  | _, _, _ => none
def dep64 (p : PyData) : Bool := SeqAt.shaped p
def eqD (d e : D) : Option Bool := (toPy d).bind fun p => (toPy e).bind fun q => if SeqAt.shaped p && SeqAt.shaped q then some (PyData.eqv p q) else none
def isNon : D → Bool
  | .non => true
  | _ => false
def strLe (a b : List Nat) : Bool := decide (¬ b < a)
def cmpD : CmpOp → D → D → Option Bool
  | .Eq, .str x, .str y => some (decide (x = y))
  | .NotEq, .str x, .str y => some (!decide (x = y))
  | .Eq, d, e => eqD d e
  | .NotEq, d, e => (eqD d e).map (!·)
  | .Lt, .int i, .int j => some (decide (i < j))
  | .LtE, .int i, .int j => some (decide (i ≤ j))
  | .Gt, .int i, .int j => some (decide (j < i))
  | .GtE, .int i, .int j => some (decide (j ≤ i))
  | .Is, d, .non => some (isNon d)
  | .IsNot, d, .non => some (!isNon d)
  | .Is, .bl a, .bl b => some (decide (a = b))
  | .IsNot, .bl a, .bl b => some (!decide (a = b))
  | _, _, _ => none
/-- truth -/
def truD : D → Option Bool
  | .non => some false
  | .bl b => some b
  | .int i => some (i != 0)
  | .str x => if szOk x.length then some ((x.length : Int) != 0) else none
  | .tup xs => some (!xs.isEmpty)
  | .lst xs => some (!xs.isEmpty)
  | _ => none
def ixD (n : Nat) (i : Int) : Option Nat := if 0 ≤ i then (if i < n then some i.toNat else none) else if -(n : Int) ≤ i then some (i + n).toNat else none
def subD : D → D → Option D
  | .tup xs, .int i => (ixD xs.length i).bind fun j => xs[j]?
  | .lst xs, .int i => (ixD xs.length i).bind fun j => xs[j]?
  | .scr xs, .int i => (ixD xs.length i).bind fun j => xs[j]?
  | _, _ => none
/-- a slice's end as a place among n -/
def endIx (n d : Nat) : Option Int → Nat
  | none => d
  | some v => if v < 0 then (v + (n : Int)).toNat else min v.toNat n
def cutD {α : Type} (xs : List α) (lo hi : Option Int) : List α := (xs.drop (endIx xs.length 0 lo)).take (endIx xs.length xs.length hi - endIx xs.length 0 lo)
def slcD (d : D) (lo hi : Option Int) : Option D := match d with
  | .tup xs => some (.tup (cutD xs lo hi))
  | .lst xs => some (.lst (cutD xs lo hi))
  | _ => none
def revD : D → Option D
  | .lst xs => some (.lst xs.reverse)
  | _ => none
def allD : List D → Option Bool
  | [] => some true
  | .bl b :: r => (allD r).map (b && ·)
  | _ => none
def anyD : List D → Option Bool
  | [] => some false
  | .bl b :: r => (anyD r).map (b || ·)
  | _ => none
def intsD : List D → Option (List Int)
  | [] => some []
  | .int i :: r => (intsD r).map (i :: ·)
  | _ => none
def reprD (d : D) : Option Str := (toPy d).bind fun p => if p.showable && decide (p.depth ≤ 40) && szOk p.shown.length && SeqAt.shaped p then some p.shown else none
def bltD : Bt → List D → Option D
  | .len, [.tup xs] => some (.int xs.length)
  | .len, [.lst xs] => some (.int xs.length)
  | .len, [.scr xs] => some (.int xs.length)
  | .len, [.str x] => if szOk x.length then some (.int x.length) else none
  | .abs, [.int i] => some (.int (if i < 0 then -i else i))
  | .int, [.int i] => some (.int i)
  | .int, [.bl b] => some (.int (if b then 1 else 0))
  | .bool, [.int i] => some (.bl (i != 0))
  | .bool, [.bl b] => some (.bl b)
  | .max2, [.int i, .int j] => some (.int (if j > i then j else i))
  | .min2, [.int i, .int j] => some (.int (if j < i then j else i))
  | .tuple, [.tup xs] => some (.tup xs)
  | .tuple, [.lst xs] => some (.tup xs)
  | .list, [.tup xs] => some (.lst xs)
  | .list, [.lst xs] => some (.lst xs)
  | .all, [.lst xs] => (allD xs).map .bl
  | .any, [.lst xs] => (anyD xs).map .bl
  | .repr, [d] => (reprD d).map .str
  | .sum, [.lst xs] => (intsD xs).map fun is => .int is.sum
  | .max1, [.lst xs] => (intsD xs).bind fun is => is.max?.map .int
  | .min1, [.lst xs] => (intsD xs).bind fun is => is.min?.map .int
  | _, _ => none
def tyName : D → Option String
  | .non => some "NoneType"
  | .bl _ => some "bool"
  | .int _ => some "int"
  | .str _ => some "str"
  | .tup _ => some "tuple"
  | .lst _ => some "list"
  | _ => none
/-- isinstance(d, t), t a built-in type among these -/
def isiD (d : D) (t : String) : Option Bool := if ["int", "bool", "str", "tuple", "list", "dict"].contains t then (tyName d).map fun n => n == t || (n == "bool" && t == "int") else none
/-- what is walked: the items -/
def itemsD : D → Option (List D)
  | .tup xs => some xs
  | .lst xs => some xs
  | _ => none
def rngD (lo : Int) (n : Nat) : List D := (List.range n).map fun i => .int (lo + (i : Nat))
def inRg (i : Int) : Bool := -16777216 ≤ i && i ≤ 16777216
def isLst : D → Bool
  | .lst _ => true
  | _ => false
def walkD : IK → List D → Option (List D)
  | .seq, [d] => itemsD d
  | .rng1, [.int j] => if inRg j then some (rngD 0 j.toNat) else none
  | .rng2, [.int i, .int j] => if inRg i && inRg j then some (rngD i (j - i).toNat) else none
  | .enum, [d] => (itemsD d).map fun xs => (xs.zipIdx).map fun p => .tup [.int (p.2 : Nat), p.1]
  | .zip, [d, e] => if isLst d == isLst e then (itemsD d).bind fun xs => (itemsD e).map fun ys => (xs.zip ys).map fun p => .tup [p.1, p.2] else none
  | _, _ => none
def datsOf : List Vl → Option (List D)
  | [] => some []
  | .dat d :: r => (datsOf r).map (d :: ·)
  | .loc _ :: _ => none
def looks (m : Sto) : List Vl → Option (List D)
  | [] => some []
  | v :: r => (look m v).bind fun d => (looks m r).map (d :: ·)
mutual
/-- data stored at a target -/
def tgD : Tg → D → Slots → Option Slots
  | .nm i, d, s => if i < s.length then some (s.set i (some (.dat d))) else none
  | .tp ts, d, s => match d with
    | .tup xs => tgDs ts xs s
    | .lst xs => tgDs ts xs s
    | _ => none
def tgDs : List Tg → List D → Slots → Option Slots
  | [], [], s => some s
  | t :: ts, x :: xs, s => (tgD t x s).bind fun s' => tgDs ts xs s'
  | _, _, _ => none
end
mutual
def slotsOf : Tg → List Nat
  | .nm i => [i]
  | .tp ts => slotsOfs ts
def slotsOfs : List Tg → List Nat
  | [] => []
  | t :: ts => slotsOf t ++ slotsOfs ts
end
def wipeS (s : Slots) : List Nat → Slots
  | [] => s
  | i :: r => (wipeS s r).set i none

/-- the turns of a comprehension: f at each item; what it gives is kept, or dropped -/
def loopC (f : D → Sto → R (Option D)) : List D → List D → Sto → R (List D)
  | [], acc, m => .ok acc m
  | x :: xs, acc, m => (f x m).bind fun o m => match o with
    | some y => loopC f xs (acc ++ [y]) m
    | none => loopC f xs acc m

/-- the world: constants of the module by name and datum, defs -/
structure Fn where
  np : Nat
  ns : Nat
  nc : Nat
  dfl : List D
  body : List St
structure Wd where
  con : List (Str × D)
  fn : List Fn

def noX {α : Type} : R α → R α
  | .exc _ _ => .bad
  | r => r

mutual
def ev (W : Wd) (C : Cal) : Ex → Slots → Sto → R Vl
  | .var i, s, m => match s[i]? with
    | some (some v) => .ok v m
    | _ => .bad
  | .cst d, _, m => .ok (.dat d) m
  | .glo g, _, m => match W.con[g]? with
    | some p => .ok (.dat p.2) m
    | none => .bad
  | .tup es, s, m => (evs W C es s m).bind fun vs m => match datsOf vs with
    | some ds => if szOk ds.length then .ok (.dat (.tup ds)) m else .bad
    | none => .bad
  | .lst es, s, m => (evs W C es s m).bind fun vs m => match datsOf vs with
    | some ds => if szOk ds.length then .ok (.dat (.lst ds)) m else .bad
    | none => .bad
  | .bin op a b, s, m => (ev W C a s m).bind fun x m => (ev W C b s m).bind fun y m => match look m x, look m y with
    | some d, some e => (R.ofO (binD op d e) m).bind fun r m => .ok (.dat r) m
    | _, _ => .bad
  | .neg a, s, m => (ev W C a s m).bind fun x m => match x with
    | .dat (.int i) => .ok (.dat (.int (-i))) m
    | _ => .bad
  | .nt a, s, m => (ev W C a s m).bind fun x m => match x with
    | .dat (.bl b) => .ok (.dat (.bl (!b))) m
    | _ => .bad
  | .cmp op a b, s, m => (ev W C a s m).bind fun x m => (ev W C b s m).bind fun y m => match look m x, look m y with
    | some d, some e => (R.ofO (cmpD op d e) m).bind fun r m => .ok (.dat (.bl r)) m
    | _, _ => .bad
  | .chain op op' a b c, s, m => (ev W C a s m).bind fun x m => (ev W C b s m).bind fun y m => match x, y with
    | .dat d, .dat e => (R.ofO (cmpD op d e) m).bind fun r m => if r = true then (ev W C c s m).bind fun z m => match z with
        | .dat g => (R.ofO (cmpD op' e g) m).bind fun r m => .ok (.dat (.bl r)) m
        | _ => .bad
      else .ok (.dat (.bl false)) m
    | _, _ => .bad
  | .andl es, s, m => evAnd W C es s m
  | .orl es, s, m => evOr W C es s m
  | .ite c a b, s, m => (evT W C c s m).bind fun x m => if x = true then ev W C a s m else ev W C b s m
  | .sub a i, s, m => (ev W C a s m).bind fun x m => (ev W C i s m).bind fun y m => match look m x, y with
    | some d, .dat e => (R.ofO (subD d e) m).bind fun r m => .ok (.dat r) m
    | _, _ => .bad
  | .slc .both a [lo, hi], s, m => (ev W C a s m).bind fun x m => (ev W C lo s m).bind fun u m => match u with
    | .dat (.int i) => (ev W C hi s m).bind fun v m => match v with
      | .dat (.int j) => match look m x with
        | some d => (R.ofO (slcD d (some i) (some j)) m).bind fun r m => .ok (.dat r) m
        | none => .bad
      | _ => .bad
    | _ => .bad
  | .slc .lo a [lo], s, m => (ev W C a s m).bind fun x m => (ev W C lo s m).bind fun u m => match u with
    | .dat (.int i) => match look m x with
      | some d => (R.ofO (slcD d (some i) none) m).bind fun r m => .ok (.dat r) m
      | none => .bad
    | _ => .bad
  | .slc .hi a [hi], s, m => (ev W C a s m).bind fun x m => (ev W C hi s m).bind fun v m => match v with
    | .dat (.int j) => match look m x with
      | some d => (R.ofO (slcD d none (some j)) m).bind fun r m => .ok (.dat r) m
      | none => .bad
    | _ => .bad
  | .slc .no a [], s, m => (ev W C a s m).bind fun x m => match look m x with
    | some d => (R.ofO (slcD d none none) m).bind fun r m => .ok (.dat r) m
    | none => .bad
  | .slc _ _ _, _, _ => .bad
  | .rev a, s, m => (ev W C a s m).bind fun x m => match look m x with
    | some d => (R.ofO (revD d) m).bind fun r m => .ok (.dat r) m
    | none => .bad
  | .call k es, s, m => (evs W C es s m).bind fun vs m => (C k vs m).bind fun r m => match r with
    | .vl v => .ok v m
    | .new xs => .ok (.dat (.lst xs)) m
  | .blt b es, s, m => (evs W C es s m).bind fun vs m => match looks m vs with
    | some ds => (R.ofO (bltD b ds) m).bind fun r m => .ok (.dat r) m
    | none => .bad
  | .isi a t, s, m => (ev W C a s m).bind fun x m => match look m x with
    | some d => (R.ofO (isiD d t) m).bind fun r m => .ok (.dat (.bl r)) m
    | none => .bad
  | .lsts fl es, s, m => (evd W C fl es s m).bind fun ds m => if szOk ds.length then .ok (.dat (.lst ds)) m else .bad
  | .comp tg ik src ifs elt, s, m => (evs W C src s m).bind fun vs m => match datsOf vs with
    | some ds => match walkD ik ds with
      | some xs => if szOk xs.length then (loopC (fun x m => match tgD tg x (wipeS s (slotsOf tg)) with
          | some s' => (noX (evIfs W C ifs s' m)).bind fun b m => if b = true then (noX (ev W C elt s' m)).bind fun v m => match v with
              | .dat d => .ok (some d) m
              | .loc _ => .bad
            else .ok none m
          | none => .bad) xs [] m).bind fun ds m => .ok (.dat (.lst ds)) m else .bad
      | none => .bad
    | none => .bad
/-- the items of a display with stars: the flag tells a starred one -/
def evd (W : Wd) (C : Cal) : List Bool → List Ex → Slots → Sto → R (List D)
  | [], [], _, m => .ok [] m
  | true :: fl, e :: es, s, m => (ev W C e s m).bind fun x m => match (look m x).bind itemsD with
    | some xs => (evd W C fl es s m).bind fun ds m => .ok (xs ++ ds) m
    | none => .bad
  | false :: fl, e :: es, s, m => (ev W C e s m).bind fun x m => match x with
    | .dat d => (evd W C fl es s m).bind fun ds m => .ok (d :: ds) m
    | .loc _ => .bad
  | _, _, _, _ => .bad
def evs (W : Wd) (C : Cal) : List Ex → Slots → Sto → R (List Vl)
  | [], _, m => .ok [] m
  | e :: es, s, m => (ev W C e s m).bind fun v m => (evs W C es s m).bind fun vs m => .ok (v :: vs) m
def evAnd (W : Wd) (C : Cal) : List Ex → Slots → Sto → R Vl
  | [], _, _ => .bad
  | [e], s, m => ev W C e s m
  | e :: e' :: es, s, m => (ev W C e s m).bind fun x m => match x with
    | .dat (.bl true) => evAnd W C (e' :: es) s m
    | .dat (.bl false) => .ok (.dat (.bl false)) m
    | _ => .bad
def evOr (W : Wd) (C : Cal) : List Ex → Slots → Sto → R Vl
  | [], _, _ => .bad
  | [e], s, m => ev W C e s m
  | e :: e' :: es, s, m => (ev W C e s m).bind fun x m => match x with
    | .dat (.bl false) => evOr W C (e' :: es) s m
    | .dat (.bl true) => .ok (.dat (.bl true)) m
    | _ => .bad
/-- the tests of a comprehension: none or one -/
def evIfs (W : Wd) (C : Cal) : List Tx → Slots → Sto → R Bool
  | [], _, m => .ok true m
  | [c], s, m => evT W C c s m
  | _, _, _ => .bad
/-- a test -/
def evT (W : Wd) (C : Cal) : Tx → Slots → Sto → R Bool
  | .val e, s, m => (ev W C e s m).bind fun x m => match (look m x).bind truD with
    | some b => .ok b m
    | none => .bad
  | .cmp op a b, s, m => (ev W C a s m).bind fun x m => (ev W C b s m).bind fun y m => match look m x, look m y with
    | some d, some e => R.ofO (cmpD op d e) m
    | _, _ => .bad
  | .chain op op' a b c, s, m => (ev W C a s m).bind fun x m => (ev W C b s m).bind fun y m => match x, y with
    | .dat d, .dat e => (R.ofO (cmpD op d e) m).bind fun r m => if r = true then (ev W C c s m).bind fun z m => match z with
        | .dat g => R.ofO (cmpD op' e g) m
        | _ => .bad
      else .ok false m
    | _, _ => .bad
  | .nt a, s, m => (evT W C a s m).bind fun x m => .ok (!x) m
  | .andl ts, s, m => evTAnd W C ts s m
  | .orl ts, s, m => evTOr W C ts s m
def evTAnd (W : Wd) (C : Cal) : List Tx → Slots → Sto → R Bool
  | [], _, _ => .bad
  | [t], s, m => evT W C t s m
  | t :: t' :: ts, s, m => (evT W C t s m).bind fun x m => if x = true then evTAnd W C (t' :: ts) s m else .ok false m
def evTOr (W : Wd) (C : Cal) : List Tx → Slots → Sto → R Bool
  | [], _, _ => .bad
  | [t], s, m => evT W C t s m
  | t :: t' :: ts, s, m => (evT W C t s m).bind fun x m => if x = true then .ok true m else evTOr W C (t' :: ts) s m
end

/-! ### statements -/
/-- how a statement ends -/
inductive Out where
  | nx (s : Slots) | ret (v : RV) | brk (s : Slots) | ctn (s : Slots)
/-- one turn of a comprehension -/
def turnC (W : Wd) (C : Cal) (tg : Tg) (ifs : List Tx) (elt : Ex) (s : Slots) (x : D) (m : Sto) : R (Option D) :=
  match tgD tg x (wipeS s (slotsOf tg)) with
  | some s' => (noX (evIfs W C ifs s' m)).bind fun b m => if b = true then (noX (ev W C elt s' m)).bind fun v m => match v with
      | .dat d => .ok (some d) m
      | .loc _ => .bad
    else .ok none m
  | none => .bad
/-- a comprehension's list -/
def evC (W : Wd) (C : Cal) (tg : Tg) (ik : IK) (src : List Ex) (ifs : List Tx) (elt : Ex) (s : Slots) (m : Sto) : R (List D) :=
  (evs W C src s m).bind fun vs m => match datsOf vs with
    | some ds => match walkD ik ds with
      | some xs => if szOk xs.length then loopC (turnC W C tg ifs elt s) xs [] m else .bad
      | none => .bad
    | none => .bad
/-- a list made by an expression that makes a new one -/
def evN (W : Wd) (C : Cal) (e : Ex) (s : Slots) (m : Sto) : R (List D) :=
  match e with
  | .lst es => (evs W C es s m).bind fun vs m => match datsOf vs with
    | some ds => if szOk ds.length then .ok ds m else .bad
    | none => .bad
  | .comp tg ik src ifs elt => evC W C tg ik src ifs elt s m
  | .bin .Mult a b => (ev W C a s m).bind fun x m => (ev W C b s m).bind fun y m => match look m x, y with
    | some (.lst xs), .dat (.int j) => if -16777216 < j && j < 16777216 && szOk (xs.length * j.toNat) then .ok (times j.toNat xs) m else .bad
    | _, _ => .bad
  | .bin .Add a b => (ev W C a s m).bind fun x m => (ev W C b s m).bind fun y m => match look m x, look m y with
    | some (.lst xs), some (.lst ys) => if szOk (xs.length + ys.length) then .ok (xs ++ ys) m else .bad
    | _, _ => .bad
  | .blt .list [a] => (ev W C a s m).bind fun x m => match look m x with
    | some (.lst xs) => .ok xs m
    | some (.tup xs) => .ok xs m
    | _ => .bad
  | .call k es => (evs W C es s m).bind fun vs m => (C k vs m).bind fun r m => match r with
    | .new xs => .ok xs m
    | _ => .bad
  | _ => .bad
theorem ev_comp (W : Wd) (C : Cal) (tg : Tg) (ik : IK) (src : List Ex) (ifs : List Tx) (elt : Ex) (s : Slots) (m : Sto) :
    ev W C (.comp tg ik src ifs elt) s m = (evC W C tg ik src ifs elt s m).bind fun ds m => .ok (.dat (.lst ds)) m := by
  simp only [ev, evC]
  cases evs W C src s m with
  | ok vs m1 =>
    simp only [R.bind]
    cases datsOf vs with
    | none => rfl
    | some ds =>
      dsimp only
      cases walkD ik ds with
      | none => rfl
      | some xs =>
        dsimp only
        split
        · rfl
        · rfl
  | exc => rfl
  | bad => rfl
/-- no slot but i holds the object n -/
def freeOf (n i : Nat) : Nat → Slots → Bool
  | _, [] => true
  | j, some (.loc k) :: r => (k != n || j == i) && freeOf n i (j + 1) r
  | j, _ :: r => freeOf n i (j + 1) r
def locAt (s : Slots) (i : Nat) : Option Nat := match s[i]? with
  | some (some (.loc n)) => some n
  | _ => none
/-- every slot that holds the object n holds the datum -/
def frzS (n : Nat) (xs : List D) : Slots → Slots
  | [] => []
  | some (.loc k) :: r => (if k = n then some (.dat (.lst xs)) else some (.loc k)) :: frzS n xs r
  | x :: r => x :: frzS n xs r
/-- the store holds a list at n -/
def isLs (m : Sto) (n : Nat) : Bool := match m[n]? with
  | some (.lst _) => true
  | _ => false
def parS : List Nat → List Vl → Slots → Option Slots
  | [], [], s => some s
  | i :: is, v :: vs, s => if i < s.length then parS is vs (s.set i (some v)) else none
  | _, _, _ => none
/-- a while, by its turn: some s: go on there; none: it is done at s -/
def whlF : Nat → (Slots → Sto → R (Out × Bool)) → Slots → Sto → R Out
  | 0, _, _, _ => .bad
  | n + 1, f, s, m => (f s m).bind fun o m => match o with
    | (.nx s', true) => whlF n f s' m
    | (.nx s', false) => .ok (.nx s') m
    | (o, _) => .ok o m
/-- a for, over its items -/
def forF (f : D → Slots → Sto → R Out) : List D → Slots → Sto → R Out
  | [], s, m => .ok (.nx s) m
  | x :: xs, s, m => (f x s m).bind fun o m => match o with
    | .nx s' => forF f xs s' m
    | .ctn s' => forF f xs s' m
    | .brk s' => .ok (.nx s') m
    | .ret v => .ok (.ret v) m
def whlMost : Nat := 2 ^ 40
mutual
def exs (W : Wd) (C : Cal) (b : Nat) : List St → Slots → Sto → R Out
  | [], s, m => .ok (.nx s) m
  | x :: r, s, m => (exS W C b x s m).bind fun o m => match o with
    | .nx s' => exs W C b r s' m
    | o => .ok o m
def exS (W : Wd) (C : Cal) (b : Nat) : St → Slots → Sto → R Out
  | .set (.nm i) e, s, m => (ev W C e s m).bind fun v m => if i < s.length then .ok (.nx (s.set i (some v))) m else .bad
  | .set (.tp ts) e, s, m => (ev W C e s m).bind fun v m => match v with
    | .dat d => (R.ofO (tgD (.tp ts) d s) m).bind fun s' m => .ok (.nx s') m
    | .loc _ => .bad
  | .par ts es, s, m => (evs W C es s m).bind fun vs m => (R.ofO (parS ts vs s) m).bind fun s' m => .ok (.nx s') m
  | .newl i c e, s, m => (evN W C e s m).bind fun xs m => if i < s.length && b + c < m.length && freeOf (b + c) i 0 s then .ok (.nx (s.set i (some (.loc (b + c))))) (m.set (b + c) (.lst xs)) else .bad
  | .sset i ix e, s, m => match locAt s i with
    | none => .bad
    | some n => (ev W C e s m).bind fun v m => (ev W C ix s m).bind fun k m => match v, k with
      | .dat d, .dat (.int j) => match m[n]? with
        | some (.lst xs) => match ixD xs.length j with
          | some p => .ok (.nx s) (m.set n (.lst (xs.set p d)))
          | none => .bad
        | _ => .bad
      | _, _ => .bad
  | .app i e, s, m => match locAt s i with
    | none => .bad
    | some n => if isLs m n then (ev W C e s m).bind fun v m => match v with
      | .dat d => match m[n]? with
        | some (.lst xs) => if szOk (xs.length + 1) then .ok (.nx s) (m.set n (.lst (xs ++ [d]))) else .bad
        | _ => .bad
      | _ => .bad else .bad
  | .frz i, s, m => match locAt s i with
    | some n => if b ≤ n then (match m[n]? with
      | some (.lst xs) => .ok (.nx (frzS n xs s)) (m.set n .nil)
      | _ => .bad) else .bad
    | none => .ok (.nx s) m
  | .aug i op e, s, m => match s[i]? with
    | some (some (.dat d)) => (ev W C e s m).bind fun v m => match d, op, v with
      | .int x, .Add, .dat (.int y) => .ok (.nx (s.set i (some (.dat (.int (x + y)))))) m
      | .int x, .Sub, .dat (.int y) => .ok (.nx (s.set i (some (.dat (.int (x - y)))))) m
      | _, _, _ => .bad
    | _ => .bad
  | .ife c x y, s, m => (evT W C c s m).bind fun t m => if t = true then exs W C b x s m else exs W C b y s m
  | .whl c x, s, m => whlF whlMost (fun s m => (evT W C c s m).bind fun t m => if t = true then (exs W C b x s m).bind fun o m => match o with
      | .nx s' => .ok (.nx s', true) m
      | .ctn s' => .ok (.nx s', true) m
      | .brk s' => .ok (.nx s', false) m
      | .ret v => .ok (.ret v, false) m
    else .ok (.nx s, false) m) s m
  | .fort tg ik src x, s, m => (evs W C src s m).bind fun vs m => match datsOf vs with
    | some ds => match walkD ik ds with
      | some xs => if szOk xs.length then forF (fun d s m => match tgD tg d s with
          | some s' => exs W C b x s' m
          | none => .bad) xs s m else .bad
      | none => .bad
    | none => .bad
  | .ret e, s, m => (ev W C e s m).bind fun v m => .ok (.ret (.vl v)) m
  | .retn, _, m => .ok (.ret (.vl (.dat .non))) m
  | .retf e, s, m => (evN W C e s m).bind fun xs m => .ok (.ret (.new xs)) m
  | .brk, s, m => .ok (.brk s) m
  | .ctn, s, m => .ok (.ctn s) m
  | .pas, s, m => .ok (.nx s) m
  | .exp e, s, m => (ev W C e s m).bind fun _ m => .ok (.nx s) m
  | .never, _, _ => .bad
end
/-! ### calls -/
/-- a value may leave the def: data, or an object of the callers -/
def outOk (n : Nat) : RV → Bool
  | .vl (.dat _) => true
  | .vl (.loc k) => decide (k < n)
  | .new _ => true
def runF (W : Wd) (C : Cal) (f : Fn) (vs : List Vl) (m : Sto) : R RV :=
  let as := vs ++ (f.dfl.drop (vs.length + f.dfl.length - f.np)).map Vl.dat
  if as.length = f.np then
    match exs W C m.length f.body (as.map some ++ List.replicate (f.ns - f.np) none) (m ++ List.replicate f.nc .nil) with
    | .ok (.ret v) m' => if outOk m.length v = true then .ok v (m'.take m.length) else .bad
    | .ok (.nx _) m' => .ok (.vl (.dat .non)) (m'.take m.length)
    | .ok _ _ => .bad
    | .exc x m' => .exc x (m'.take m.length)
    | .bad => .bad
  else .bad
def callF (W : Wd) : Nat → Cal
  | 0, _, _, _ => .bad
  | n + 1, k, vs, m => match W.fn[k]? with
    | some f => runF W (callF W n) f vs m
    | none => .bad
end EV

set_option Elab.async false
set_option linter.all false
set_option maxRecDepth 100000
/-! EV, part B: how data lies in the abstract heap. -/
namespace EV
open PySem PySem.Spec PyProof.Rows L2
def Sub (F H : Hp) : Prop := ∀ a o, F a = some o → H a = some o
theorem Sub.refl (F : Hp) : Sub F F := fun _ _ h => h
theorem Sub.trans {F G H : Hp} (h : Sub F G) (k : Sub G H) : Sub F H := fun a o e => k a o (h a o e)
theorem sub_upd {F : Hp} {p : Addr} {o : HO} (h : F p = none) : Sub F (upd F p o) := fun a u e => by rw [upd_ne (ne_of_none e h)]; exact e
theorem upd_sub {F H : Hp} {p : Addr} {o : HO} (h : Sub F H) : Sub (upd F p o) (upd H p o) := fun a u e => by
  by_cases q : a = p
  · subst q; rw [upd_same] at e ⊢; exact e
  · rw [upd_ne q] at e ⊢; exact h _ _ e
theorem Rd.mono {F H : Hp} {a : Addr} {u : HO} (s : Sub F H) (h : Rd F a u) : Rd H a u := by
  rcases h with h | ⟨o, h⟩
  · exact .inl (s _ _ h)
  · exact .inr ⟨o, s _ _ h⟩
theorem SqL.mono {K : PySem.W.Frag} {F H : Hp} {a : Addr} {xs : List V} (s : Sub F H) (h : SqL K F a xs) : SqL K H a xs := h.imp (Rd.mono s) id
theorem SqT.mono {K : PySem.W.Frag} {F H : Hp} {a : Addr} {xs : List V} (s : Sub F H) (h : SqT K F a xs) : SqT K H a xs := h.imp (Rd.mono s) id
section
variable (K : PySem.W.Frag) (ad : Nat → Addr)
mutual
/-- v is the datum, read off the frozen part F -/
inductive Rp (F : Hp) : V → D → Prop
  | non : Rp F .non .non
  | bl (b : Bool) : Rp F (.bl b) (.bl b)
  | int (i : Int) : Rp F (.int i) (.int i)
  | str (x : Str) : Rp F (.str x) (.str x)
  | obj (k : Nat) : Rp F (.ref (ad k)) (.obj k)
  | tup {a : Addr} {vs : List V} {ds : List D} : SqT K F a vs → RpA F vs ds → Rp F (.ref a) (.tup ds)
  | lst {a : Addr} {vs : List V} {ds : List D} : F a = some (.lst vs) → RpA F vs ds → Rp F (.ref a) (.lst ds)
  | scr {a : Addr} {vs : List V} {ds : List D} : SqL K F a vs → RpA F vs ds → Rp F (.ref a) (.scr ds)
inductive RpA (F : Hp) : List V → List D → Prop
  | nil : RpA F [] []
  | cons {v : V} {vs : List V} {d : D} {ds : List D} : Rp F v d → RpA F vs ds → RpA F (v :: vs) (d :: ds)
end
end
section
variable {K : PySem.W.Frag} {ad : Nat → Addr} {F G H : Hp}
mutual
theorem Rp.mono (s : Sub F G) : ∀ {d : D} {v : V}, Rp K ad F v d → Rp K ad G v d
  | .non, _, h => by cases h; exact .non
  | .bl b, _, h => by cases h; exact .bl b
  | .int i, _, h => by cases h; exact .int i
  | .str x, _, h => by cases h; exact .str x
  | .obj k, _, h => by cases h; exact .obj k
  | .tup ds, _, h => by
    cases h with
    | tup a b => exact .tup (SqT.mono s a) (RpA.mono s b)
  | .lst ds, _, h => by
    cases h with
    | lst a b => exact .lst (s _ _ a) (RpA.mono s b)
  | .scr ds, _, h => by
    cases h with
    | scr a b => exact .scr (SqL.mono s a) (RpA.mono s b)
theorem RpA.mono (s : Sub F G) : ∀ {ds : List D} {vs : List V}, RpA K ad F vs ds → RpA K ad G vs ds
  | [], _, h => by cases h; exact .nil
  | d :: ds, _, h => by
    cases h with
    | cons a b => exact .cons (Rp.mono s a) (RpA.mono s b)
end
mutual
theorem Rp.dp (s : Sub F H) : ∀ {d : D} {v : V} {p : PyData}, Rp K ad F v d → toPy d = some p → Dp K H v p
  | .non, _, _, h, e => by cases h; cases e; exact .non
  | .bl b, _, _, h, e => by cases h; cases e; exact .bl b
  | .int i, _, _, h, e => by cases h; cases e; exact .int i
  | .str x, _, _, h, e => by cases h; cases e; exact .str x
  | .obj k, _, _, h, e => by cases e
  | .scr ds, _, _, h, e => by cases e
  | .tup ds, _, p, h, e => by
    cases h with
    | tup a b =>
      simp only [toPy] at e
      cases q : toPys ds with
      | none => rw [q] at e; cases e
      | some ps =>
        rw [q] at e; cases e
        exact .tup (SqT.mono s a) (RpA.dp s b q)
  | .lst ds, _, p, h, e => by
    cases h with
    | lst a b =>
      simp only [toPy] at e
      cases q : toPys ds with
      | none => rw [q] at e; cases e
      | some ps =>
        rw [q] at e; cases e
        exact .lst (SqL.of (s _ _ a)) (RpA.dp s b q)
theorem RpA.dp (s : Sub F H) : ∀ {ds : List D} {vs : List V} {ps : List PyData}, RpA K ad F vs ds → toPys ds = some ps → DpAll K H vs ps
  | [], _, _, h, e => by cases h; cases e; exact .nil
  | d :: ds, _, _, h, e => by
    cases h with
    | cons a b =>
      simp only [toPys] at e
      cases q1 : toPy d with
      | none => rw [q1] at e; cases e
      | some p1 =>
        rw [q1] at e
        cases q2 : toPys ds with
        | none => rw [q2] at e; cases e
        | some ps =>
          rw [q2] at e; cases e
          exact .cons (Rp.dp s a q1) (RpA.dp s b q2)
end
theorem RpA.len : ∀ {vs : List V} {ds : List D}, RpA K ad F vs ds → vs.length = ds.length
  | _, _, .nil => rfl
  | _, _, .cons _ b => congrArg Nat.succ (RpA.len b)
theorem RpA.get : ∀ {vs : List V} {ds : List D} {i : Nat} {d : D}, RpA K ad F vs ds → ds[i]? = some d → ∃ v, vs[i]? = some v ∧ Rp K ad F v d
  | _, _, _, _, .nil, e => by simp at e
  | _, _, 0, _, .cons a _, e => by simp at e; subst e; exact ⟨_, rfl, a⟩
  | _, _, i + 1, _, .cons _ b, e => by
    obtain ⟨v, h1, h2⟩ := RpA.get (i := i) b (by simpa using e)
    exact ⟨v, by simpa using h1, h2⟩
theorem RpA.app : ∀ {vs ws : List V} {ds es : List D}, RpA K ad F vs ds → RpA K ad F ws es → RpA K ad F (vs ++ ws) (ds ++ es)
  | _, _, _, _, .nil, h => h
  | _, _, _, _, .cons a b, h => .cons a (RpA.app b h)
theorem RpA.take : ∀ {vs : List V} {ds : List D} (n : Nat), RpA K ad F vs ds → RpA K ad F (vs.take n) (ds.take n)
  | _, _, 0, _ => .nil
  | _, _, _ + 1, .nil => .nil
  | _, _, n + 1, .cons a b => .cons a (RpA.take n b)
theorem RpA.drop : ∀ {vs : List V} {ds : List D} (n : Nat), RpA K ad F vs ds → RpA K ad F (vs.drop n) (ds.drop n)
  | _, _, 0, h => h
  | _, _, _ + 1, .nil => .nil
  | _, _, n + 1, .cons _ b => RpA.drop n b
theorem RpA.set {v : V} {d : D} (r : Rp K ad F v d) : ∀ {vs : List V} {ds : List D} (i : Nat), RpA K ad F vs ds → RpA K ad F (vs.set i v) (ds.set i d)
  | _, _, _, .nil => .nil
  | _, _, 0, .cons _ b => .cons r b
  | _, _, i + 1, .cons a b => .cons a (RpA.set r i b)
theorem RpA.rev : ∀ {vs : List V} {ds : List D}, RpA K ad F vs ds → RpA K ad F vs.reverse ds.reverse
  | _, _, .nil => .nil
  | _, _, .cons a b => by
    rw [List.reverse_cons, List.reverse_cons]
    exact RpA.app (RpA.rev b) (.cons a .nil)
theorem RpA.rep {vs : List V} {ds : List D} (h : RpA K ad F vs ds) : ∀ n : Nat, RpA K ad F (List.replicate n vs).flatten (List.replicate n ds).flatten
  | 0 => .nil
  | n + 1 => by
    rw [List.replicate_succ, List.replicate_succ, List.flatten_cons, List.flatten_cons]
    exact RpA.app h (RpA.rep h n)
theorem RpA.nil_iff {vs : List V} {ds : List D} (h : RpA K ad F vs ds) : vs = [] ↔ ds = [] := by
  have := h.len
  constructor
  · rintro rfl
    exact List.eq_nil_of_length_eq_zero (by simpa using this.symm)
  · rintro rfl
    exact List.eq_nil_of_length_eq_zero (by simpa using this)
end

/-! ### the store -/
def live (m : Sto) (i : Nat) : Prop := ∃ xs, m[i]? = some (MO.lst xs)
def Own (L : List Addr) (m : Sto) (a : Addr) : Prop := ∃ i, live m i ∧ L[i]? = some a
section
variable (K : PySem.W.Frag) (ad : Nat → Addr)
/-- the store lies in H at L; F is what stays -/
structure StoR (L : List Addr) (m : Sto) (F H : Hp) : Prop where
  sub : Sub F H
  obj : ∀ (i : Nat) (xs : List D), m[i]? = some (MO.lst xs) → ∃ (a : Addr) (vs : List V), L[i]? = some a ∧ F a = none ∧ H a = some (HO.lst vs) ∧ RpA K ad F vs xs
  inj : ∀ (i j : Nat) (a : Addr), live m i → live m j → L[i]? = some a → L[j]? = some a → i = j
  len : L.length = m.length
/-- a slot's value -/
def VlR (L : List Addr) (F : Hp) (v : Vl) (x : V) : Prop := match v with
  | .dat d => Rp K ad F x d
  | .loc n => ∃ a, L[n]? = some a ∧ x = .ref a
inductive VlRs (L : List Addr) (F : Hp) : List Vl → List V → Prop
  | nil : VlRs L F [] []
  | cons {v : Vl} {vs : List Vl} {x : V} {xs : List V} : VlR K ad L F v x → VlRs L F vs xs → VlRs L F (v :: vs) (x :: xs)
structure SltR (L : List Addr) (F : Hp) (s : Slots) (σ : L2.St) : Prop where
  len : σ.length = s.length
  at_ : ∀ (i : Nat) (v : Vl), s[i]? = some (some v) → ∃ x : V, σ[i]? = some (some x) ∧ VlR K ad L F v x
end
/-- from one state to a later one, the store's objects at the same places -/
structure Ext (L : List Addr) (m : Sto) (F H : Hp) (m' : Sto) (F' H' : Hp) : Prop where
  sub : Sub F F'
  keep : ∀ a o, H a = some o → ¬ Own L m a → H' a = some o
  own : ∀ i, live m' i ↔ live m i
  len : m'.length = m.length
  fresh : ∀ a, F' a = F a ∨ H a = none
  there : ∀ a o, H a = some o → ∃ o', H' a = some o'
/-- new objects, some of them frozen -/
structure Grow (F H F' H' : Hp) : Prop where
  sub : Sub F F'
  grow : Sub H H'
  low : Sub F' H'
  fresh : ∀ a, F' a = F a ∨ H a = none
section
variable {K : PySem.W.Frag} {ad : Nat → Addr} {L : List Addr} {m m1 m2 : Sto} {F F1 F2 H H1 H2 : Hp}
theorem VlR.mono {v : Vl} {x : V} (s : Sub F F1) (h : VlR K ad L F v x) : VlR K ad L F1 v x := by
  cases v with
  | dat d => exact Rp.mono s h
  | loc n => exact h
theorem VlRs.mono (s : Sub F F1) : ∀ {vs : List Vl} {xs : List V}, VlRs K ad L F vs xs → VlRs K ad L F1 vs xs
  | _, _, .nil => .nil
  | _, _, .cons a b => .cons (a.mono s) (VlRs.mono s b)
theorem VlRs.len : ∀ {vs : List Vl} {xs : List V}, VlRs K ad L F vs xs → vs.length = xs.length
  | _, _, .nil => rfl
  | _, _, .cons _ b => congrArg Nat.succ (VlRs.len b)
theorem SltR.mono {s : Slots} {σ : L2.St} (h : SltR K ad L F s σ) (q : Sub F F1) : SltR K ad L F1 s σ :=
  ⟨h.len, fun i v e => let ⟨x, e1, r⟩ := h.at_ i v e; ⟨x, e1, r.mono q⟩⟩
theorem Ext.refl : Ext L m F H m F H := ⟨Sub.refl _, fun _ _ e _ => e, fun _ => Iff.rfl, rfl, fun _ => .inl rfl, fun _ o e => ⟨o, e⟩⟩
theorem Ext.ownA (e : Ext L m F H m1 F1 H1) (a : Addr) : Own L m1 a ↔ Own L m a :=
  ⟨fun ⟨i, h1, h2⟩ => ⟨i, (e.own i).mp h1, h2⟩, fun ⟨i, h1, h2⟩ => ⟨i, (e.own i).mpr h1, h2⟩⟩
theorem Ext.trans (e : Ext L m F H m1 F1 H1) (f : Ext L m1 F1 H1 m2 F2 H2) : Ext L m F H m2 F2 H2 :=
  ⟨e.sub.trans f.sub, fun a o h n => f.keep a o (e.keep a o h n) fun q => n ((e.ownA a).mp q), fun i => (f.own i).trans (e.own i), f.len.trans e.len, fun a => (by
    rcases f.fresh a with q | q
    · rcases e.fresh a with p | p
      · exact .inl (q.trans p)
      · exact .inr p
    · cases p : H a with
      | none => exact .inr rfl
      | some o =>
        obtain ⟨o', z⟩ := e.there a o p
        rw [z] at q; cases q), fun a o h => (by
    obtain ⟨o', z⟩ := e.there a o h
    exact f.there a o' z)⟩
theorem StoR.owned (s : StoR K ad L m F H) {a : Addr} (h : Own L m a) : ∃ vs, H a = some (.lst vs) ∧ F a = none := by
  obtain ⟨i, ⟨xs, e⟩, l⟩ := h
  obtain ⟨b, vs, e1, e2, e3, _⟩ := s.obj i xs e
  rw [l] at e1; cases e1
  exact ⟨vs, e3, e2⟩
theorem Grow.refl (s : Sub F H) : Grow F H F H := ⟨Sub.refl _, Sub.refl _, s, fun _ => .inl rfl⟩
theorem Grow.trans (g : Grow F H F1 H1) (k : Grow F1 H1 F2 H2) : Grow F H F2 H2 :=
  ⟨g.sub.trans k.sub, g.grow.trans k.grow, k.low, fun a => by
    rcases k.fresh a with e | e
    · rcases g.fresh a with e' | e'
      · exact .inl (e.trans e')
      · exact .inr e'
    · cases q : H a with
      | none => exact .inr rfl
      | some o => rw [g.grow a o q] at e; cases e⟩
theorem Grow.ext (g : Grow F H F1 H1) : Ext L m F H m F1 H1 := ⟨g.sub, fun a o e _ => g.grow a o e, fun _ => Iff.rfl, rfl, g.fresh, fun a o e => ⟨o, g.grow a o e⟩⟩
theorem Grow.sto (g : Grow F H F1 H1) (s : StoR K ad L m F H) : StoR K ad L m F1 H1 :=
  ⟨g.low, fun i xs e => (by
    obtain ⟨a, vs, e1, e2, e3, e4⟩ := s.obj i xs e
    refine ⟨a, vs, e1, ?_, g.grow _ _ e3, e4.mono g.sub⟩
    rcases g.fresh a with q | q
    · rw [q]; exact e2
    · rw [e3] at q; cases q), s.inj, s.len⟩
/-- a new object, frozen -/
theorem Grow.new {p : Addr} {o : HO} (s : Sub F H) (h : H p = none) : Grow F H (upd F p o) (upd H p o) := by
  have hf : F p = none := by
    cases q : F p with
    | none => rfl
    | some u => rw [s _ _ q] at h; cases h
  refine ⟨sub_upd hf, sub_upd h, upd_sub s, fun a => ?_⟩
  by_cases q : a = p
  · subst q; exact .inr h
  · exact .inl (upd_ne q)
/-- a new object that isn't frozen (yet) -/
theorem Grow.bare {p : Addr} {o : HO} (s : Sub F H) (h : H p = none) : Grow F H F (upd H p o) :=
  ⟨Sub.refl _, sub_upd h, s.trans (sub_upd h), fun _ => .inl rfl⟩
/-- freeze a new object -/
theorem Grow.frz {p : Addr} {o : HO} (g : Grow F H F1 H1) (h : H p = none) (h1 : F1 p = none) (e : H1 p = some o) : Grow F H (upd F1 p o) H1 := by
  refine ⟨g.sub.trans (sub_upd h1), g.grow, fun a u q => ?_, fun a => ?_⟩
  · by_cases z : a = p
    · subst z; rw [upd_same] at q; cases q; exact e
    · rw [upd_ne z] at q; exact g.low _ _ q
  · by_cases z : a = p
    · subst z; exact .inr h
    · rw [upd_ne z]; exact g.fresh a
/-- a new list, frozen behind the work -/
theorem Ext.frz {p : Addr} {o : HO} (e : Ext L m F H m1 F1 H1) (h : H p = none) (h1 : F1 p = none) (h2 : H1 p = some o) : Ext L m F H m1 (upd F1 p o) H1 :=
  ⟨e.sub.trans (sub_upd h1), e.keep, e.own, e.len, fun a => (by
    by_cases q : a = p
    · subst q; exact .inr h
    · rw [upd_ne q]; exact e.fresh a), e.there⟩
theorem Ext.notOwn {p : Addr} (e : Ext L m F H m1 F1 H1) (s : StoR K ad L m F H) (h : H p = none) : ¬ Own L m1 p := fun q => by
  obtain ⟨vs, z, _⟩ := s.owned ((e.ownA p).mp q)
  rw [h] at z; cases z
theorem StoR.frz {p : Addr} {o : HO} (s : StoR K ad L m F H) (n : ¬ Own L m p) (h1 : F p = none) (h2 : H p = some o) : StoR K ad L m (upd F p o) H :=
  ⟨fun a u e => (by
    by_cases q : a = p
    · subst q; rw [upd_same] at e; cases e; exact h2
    · rw [upd_ne q] at e; exact s.sub _ _ e), fun i xs e => (by
    obtain ⟨a, vs, e1, e2, e3, e4⟩ := s.obj i xs e
    have ne : a ≠ p := fun z => n ⟨i, ⟨xs, e⟩, z ▸ e1⟩
    exact ⟨a, vs, e1, by rw [upd_ne ne]; exact e2, e3, e4.mono (sub_upd h1)⟩), s.inj, s.len⟩
/-! ### a value looked at -/
variable (K ad) in
/-- what an operation sees: the datum's outermost object in H, its items in F -/
inductive Lk (F H : Hp) : V → D → Prop
  | non : Lk F H .non .non
  | bl (b : Bool) : Lk F H (.bl b) (.bl b)
  | int (i : Int) : Lk F H (.int i) (.int i)
  | str (x : Str) : Lk F H (.str x) (.str x)
  | obj (k : Nat) : Lk F H (.ref (ad k)) (.obj k)
  | tup {a : Addr} {vs : List V} {ds : List D} : SqT K F a vs → RpA K ad F vs ds → Lk F H (.ref a) (.tup ds)
  | lst {a : Addr} {vs : List V} {ds : List D} : H a = some (.lst vs) → RpA K ad F vs ds → Lk F H (.ref a) (.lst ds)
  | scr {a : Addr} {vs : List V} {ds : List D} : SqL K F a vs → RpA K ad F vs ds → Lk F H (.ref a) (.scr ds)
theorem Rp.lk {v : V} {d : D} (s : Sub F H) (h : Rp K ad F v d) : Lk K ad F H v d := by
  cases h with
  | non => exact .non
  | bl b => exact .bl b
  | int i => exact .int i
  | str x => exact .str x
  | obj k => exact .obj k
  | tup a b => exact .tup a b
  | lst a b => exact .lst (s _ _ a) b
  | scr a b => exact .scr a b
theorem VlR.lk {v : Vl} {x : V} {d : D} (s : StoR K ad L m F H) (h : VlR K ad L F v x) (e : look m v = some d) : Lk K ad F H x d := by
  cases v with
  | dat d' =>
    cases e
    exact Rp.lk s.sub h
  | loc n =>
    obtain ⟨a, e1, rfl⟩ := h
    simp only [look] at e
    split at e
    · rename_i xs q
      cases e
      obtain ⟨b, vs, e2, _, e3, e4⟩ := s.obj n xs q
      rw [e1] at e2; cases e2
      exact .lst e3 e4
    · cases e
theorem Lk.dp {v : V} {d : D} {p : PyData} (s : Sub F H) (h : Lk K ad F H v d) (e : toPy d = some p) : Dp K H v p := by
  cases h with
  | non => cases e; exact .non
  | bl b => cases e; exact .bl b
  | int i => cases e; exact .int i
  | str x => cases e; exact .str x
  | obj k => cases e
  | scr a b => cases e
  | tup a b =>
    simp only [toPy] at e
    obtain ⟨ps, q, rfl⟩ := Option.map_eq_some_iff.mp e
    exact .tup (SqT.mono s a) (b.dp s q)
  | lst a b =>
    simp only [toPy] at e
    obtain ⟨ps, q, rfl⟩ := Option.map_eq_some_iff.mp e
    exact .lst (SqL.of a) (b.dp s q)
end

/-! ### results -/
section
variable (K : PySem.W.Frag) (ad : Nat → Addr) (XR : Xc → Value → Option Addr → Hp → Hp → Prop) (Wi : XK)
/-- the result r of what begins at (L, m, F, H) fulfils the wish Q (an exception: Wi) -/
def Hold {α β : Type} (rel : Hp → Hp → α → β → Prop) (r : R α) (L : List Addr) (m : Sto) (F H : Hp) (Q : β → Hp → Prop) : Prop :=
  match r with
  | .ok a m' => ∀ F' H' x, Ext L m F H m' F' H' → StoR K ad L m' F' H' → rel F' H' a x → Q x H'
  | .exc xc m' => ∀ F' H' cls d, Ext L m F H m' F' H' → StoR K ad L m' F' H' → XR xc cls d F' H' → Wi cls d H'
  | .bad => False
end
section
variable {K : PySem.W.Frag} {ad : Nat → Addr} {XR : Xc → Value → Option Addr → Hp → Hp → Prop} {Wi : XK} {L : List Addr} {m m1 : Sto} {F F1 H H1 : Hp}
theorem Hold.step {α β : Type} {rel : Hp → Hp → α → β → Prop} {r : R α} {Q : β → Hp → Prop} (e : Ext L m F H m1 F1 H1) (h : Hold K ad XR Wi rel r L m F H Q) : Hold K ad XR Wi rel r L m1 F1 H1 Q := by
  cases r with
  | ok a m' => exact fun F' H' x e' => h F' H' x (e.trans e')
  | exc x m' => exact fun F' H' c d e' => h F' H' c d (e.trans e')
  | bad => exact h
theorem Hold.mono {α β : Type} {rel : Hp → Hp → α → β → Prop} {r : R α} {Q Q' : β → Hp → Prop} (h : Hold K ad XR Wi rel r L m F H Q) (q : ∀ x H, Q x H → Q' x H) : Hold K ad XR Wi rel r L m F H Q' := by
  cases r with
  | ok a m' => exact fun F' H' x e s r => q _ _ (h F' H' x e s r)
  | exc x m' => exact h
  | bad => exact h
/-- the parts of a bind -/
theorem Hold.bind {α β γ δ : Type} {rel : Hp → Hp → β → γ → Prop} (rel1 : Hp → Hp → α → δ → Prop) {r : R α} {f : α → Sto → R β} {Q : γ → Hp → Prop} (h : Hold K ad XR Wi rel (r.bind f) L m F H Q) :
    Hold K ad XR Wi rel1 r L m F H fun x H1 => ∃ a m1 F1, r = .ok a m1 ∧ Ext L m F H m1 F1 H1 ∧ StoR K ad L m1 F1 H1 ∧ rel1 F1 H1 a x ∧ Hold K ad XR Wi rel (f a m1) L m1 F1 H1 Q := by
  cases r with
  | ok a m' => exact fun F' H' x e s r => ⟨a, m', F', rfl, e, s, r, Hold.step e h⟩
  | exc x m' => exact h
  | bad => exact h
/-- where the result is there at once -/
theorem Hold.now {α β : Type} {rel : Hp → Hp → α → β → Prop} {a : α} {Q : β → Hp → Prop} {F' H' : Hp} {x : β} (h : Hold K ad XR Wi rel (.ok a m) L m F H Q) (s : StoR K ad L m F H) (g : Grow F H F' H') (r : rel F' H' a x) : Q x H' :=
  h F' H' x g.ext (g.sto s) r
theorem ofO_ok {α : Type} {o : Option α} {m : Sto} {β : Type} {f : α → Sto → R β} : (R.ofO o m).bind f = match o with | some a => f a m | none => .bad := by
  cases o <;> rfl
end
end EV

set_option Elab.async false
set_option linter.all false
set_option maxRecDepth 100000
/-! EV, part C: operations by values. -/
namespace EV
open PySem PySem.Spec PyProof.Rows L2
section
variable (K : PySem.W.Frag) (ad : Nat → Addr)
/-- an operation's end: the wish holds of whatever is the datum r behind new objects -/
def Fin (F H : Hp) (r : D) (Q : VK) : Prop := ∀ F' H' z, Grow F H F' H' → Rp K ad F' z r → Q z H'
def rBin (op : Operator) : R2 := fun x y H Q => ∃ F d e r, Sub F H ∧ Lk K ad F H x d ∧ Lk K ad F H y e ∧ binD op d e = some r ∧ Fin K ad F H r Q
def rCmp (op : CmpOp) : R2 := fun x y H Q => ∃ F d e b, Sub F H ∧ Lk K ad F H x d ∧ Lk K ad F H y e ∧ cmpD op d e = some b ∧ Q (.bl b) H
end
section
variable {K : PySem.W.Frag} {ad : Nat → Addr} {F H : Hp} {Q : VK}
theorem Fin.int {i : Int} (s : Sub F H) (h : Fin K ad F H (.int i) Q) : Q (.int i) H := h F H _ (.refl s) (.int i)
theorem Fin.bl {b : Bool} (s : Sub F H) (h : Fin K ad F H (.bl b) Q) : Q (.bl b) H := h F H _ (.refl s) (.bl b)
theorem Fin.str {x : Str} (s : Sub F H) (h : Fin K ad F H (.str x) Q) : Q (.str x) H := h F H _ (.refl s) (.str x)
theorem Fin.same {r : D} {v : V} (s : Sub F H) (h : Fin K ad F H r Q) (g : Rp K ad F v r) : Q v H := h F H _ (.refl s) g
theorem Fin.tup {ds : List D} {vs : List V} (s : Sub F H) (h : Fin K ad F H (.tup ds) Q) (r : RpA K ad F vs ds) : ∀ p, H p = none → Q (.ref p) (upd H p (.tup vs)) := fun p hp =>
  have g := Grow.new (o := .tup vs) s hp
  h _ _ _ g (.tup (SqT.of upd_same) (r.mono g.sub))
theorem Fin.lst {ds : List D} {vs : List V} (s : Sub F H) (h : Fin K ad F H (.lst ds) Q) (r : RpA K ad F vs ds) : ∀ p, H p = none → Q (.ref p) (upd H p (.lst vs)) := fun p hp =>
  have g := Grow.new (o := .lst vs) s hp
  h _ _ _ g (.lst upd_same (r.mono g.sub))

theorem le_of_sz {n : Nat} (h : szOk n = true) : n ≤ sizeLine := of_decide_eq_true h
variable {X : Cx}
/-! tuple * int, any count -/
theorem tuple_mulS (l : Addr) (items : Array Value) (n : Nat) (dd : Option Addr) (sl : Array (Option Value)) (x : Int) (u : Tok) (c0 : (decide (x < -(2 ^ 63)) || decide (x ≥ 2 ^ 63)) = false) (c1 : (items.isEmpty || x == 1) = true) :
    Meets (Builtin.«tuple.__mul__» ⟨[.ref l, .int x u], []⟩) (fun _ R s => s.heap.get? l = some { cls := .type "tuple", dict := dd, data := .seq items n, slots := sl } ∧
      R (.ok (.ret (Value.ref l))) s) :=
  .of_wp fun prog w A R s h => by
    obtain ⟨hp, g, d, tk, os⟩ := s
    obtain ⟨hl, h⟩ := h
    have f1 := AutoSeq1.idx_int
    wp_walk using wpAny_loadPart' hl
    repeat (first
      | (refine wpAny_ite_false (decide_eq_false (by rw [c0]; exact Bool.false_ne_true)) ?_; wp_walk using wpAny_loadPart' hl)
      | (refine wpAny_ite_true (decide_eq_true (by rw [c1])) ?_; wp_walk using wpAny_loadPart' hl))
    exact ⟨_, rfl, h⟩
theorem tuple_mul0 (l : Addr) (items : Array Value) (n : Nat) (dd : Option Addr) (sl : Array (Option Value)) (x : Int) (u : Tok) (c0 : (decide (x < -(2 ^ 63)) || decide (x ≥ 2 ^ 63)) = false) (c1 : (items.isEmpty || x == 1) = false) (c2 : (decide (x ≤ 0) || items.isEmpty) = true) :
    Meets (Builtin.«tuple.__mul__» ⟨[.ref l, .int x u], []⟩) (fun _ R s => s.heap.get? l = some { cls := .type "tuple", dict := dd, data := .seq items n, slots := sl } ∧
      R (.ok (.ret (Value.ref s.heap.objs.size))) { s with heap := s.heap.push { cls := Value.type "tuple", data := Data.seq #[] }, toks := s.toks }) :=
  .of_wp fun prog w A R s h => by
    obtain ⟨hp, g, d, tk, os⟩ := s
    obtain ⟨hl, h⟩ := h
    have f1 := AutoSeq1.idx_int
    wp_walk using wpAny_loadPart' hl
    repeat (first
      | (refine wpAny_ite_false (decide_eq_false (by rw [c0]; exact Bool.false_ne_true)) ?_; wp_walk using wpAny_loadPart' hl)
      | (refine wpAny_ite_false (decide_eq_false (by rw [c1]; exact Bool.false_ne_true)) ?_; wp_walk using wpAny_loadPart' hl)
      | (refine wpAny_ite_true (decide_eq_true (by rw [c2])) ?_; wp_walk using wpAny_loadPart' hl))
    exact ⟨_, rfl, h⟩
def rRepS (K : PySem.W.Frag) : R2 := fun x y H Q => ∃ l k xs, x = .ref l ∧ y = .int k ∧ SqT K H l xs ∧ (xs = [] ∨ k = 1) ∧ -1000 ≤ k ∧ k ≤ 1000 ∧ Q (.ref l) H
theorem op_repS : OpR X (binaryOp .Mult) (rRepS X.K) := by
  intro pins s σ H x y v u Q I rx ry h
  obtain ⟨l, k, xs, rfl, rfl, hT, hne, h1, h2, q⟩ := h
  cases rx
  obtain ⟨t, rfl⟩ := ry
  obtain ⟨its, r, ⟨⟨cls, dd, data, sl⟩, ho, hc, n, hd⟩, hs⟩ := I.tuple hT
  simp only at hc hd
  subst hc hd
  have c0 : (decide (k < -(2 ^ 63)) || decide (k ≥ 2 ^ 63)) = false := by
    rw [decide_eq_false (by omega), decide_eq_false (by omega)] <;> rfl
  have c1 : (its.toArray.isEmpty || k == 1) = true := by
    rcases hne with e | e
    · subst e
      cases r
      rfl
    · subst e
      simp
  exact wpAny_binaryOp_repeat_ref (T := "tuple") (U := "int") (by decide) ⟨_, ho, rfl⟩ (fun s' => typeIs_int s' k t) noFill_tuple_mul F.fills_int_mul F.slot_int_rmul repeat_tuple F.slot_int_index.lookup
    (call_meets F.slot_int_rmul (typeIs_int s k t) F.entry_int_rmul (F.args_int_rmul_2 _ _) (int_rmul_tuple k t l its.toArray n dd sl)
      ⟨ho, rfl, ⟨_, ho, rfl⟩, call_meets F.slot_tuple_mul ⟨_, ho, rfl⟩ F.entry_tuple_mul (F.args_tuple_mul_2 _ _) (tuple_mulS l its.toArray n dd sl k t c0 c1) ⟨ho, .ref l, H, I, rfl, q⟩⟩)
def rRep0 (K : PySem.W.Frag) : R2 := fun x y H Q => ∃ l k xs, x = .ref l ∧ y = .int k ∧ SqT K H l xs ∧ xs ≠ [] ∧ -1000 ≤ k ∧ k ≤ 0 ∧ ∀ p, H p = none → Q (.ref p) (upd H p (.tup []))
theorem op_rep0 : OpR X (binaryOp .Mult) (rRep0 X.K) := by
  intro pins s σ H x y v u Q I rx ry h
  obtain ⟨l, k, xs, rfl, rfl, hT, hne, h1, h2, q⟩ := h
  cases rx
  obtain ⟨t, rfl⟩ := ry
  obtain ⟨its, r, ⟨⟨cls, dd, data, sl⟩, ho, hc, n, hd⟩, hs⟩ := I.tuple hT
  simp only at hc hd
  subst hc hd
  have hle : its.length = xs.length := r.length.symm
  have hn : its ≠ [] := fun e => hne (by
    rw [e] at hle
    exact List.eq_nil_of_length_eq_zero hle.symm)
  have hi : its.toArray.isEmpty = false := by
    cases its with
    | nil => exact absurd rfl hn
    | cons a b => rfl
  have c0 : (decide (k < -(2 ^ 63)) || decide (k ≥ 2 ^ 63)) = false := by
    rw [decide_eq_false (by omega), decide_eq_false (by omega)] <;> rfl
  have c1 : (its.toArray.isEmpty || k == 1) = false := by
    rw [hi, Bool.false_or]
    exact beq_eq_false_iff_ne.mpr (by omega)
  have c2 : (decide (k ≤ 0) || its.toArray.isEmpty) = true := by
    rw [decide_eq_true h2]
    rfl
  refine wpAny_binaryOp_repeat_ref (T := "tuple") (U := "int") (by decide) ⟨_, ho, rfl⟩ (fun s' => typeIs_int s' k t) noFill_tuple_mul F.fills_int_mul F.slot_int_rmul repeat_tuple F.slot_int_index.lookup
    (call_meets F.slot_int_rmul (typeIs_int s k t) F.entry_int_rmul (F.args_int_rmul_2 _ _) (int_rmul_tuple k t l its.toArray n dd sl)
      ⟨ho, rfl, ⟨_, ho, rfl⟩, call_meets F.slot_tuple_mul ⟨_, ho, rfl⟩ F.entry_tuple_mul (F.args_tuple_mul_2 _ _) (tuple_mul0 l its.toArray n dd sl k t c0 c1 c2) ⟨ho, ?_⟩⟩)
  refine ⟨.ref s.heap.objs.size, _, I.laid (t' := s.toks) (o := .tup []) (fun b ob q => Heap.get?_push_of_some _ q) (Nat.le_refl _) ?_, rfl, q _ (I.hok.fresh (Nat.le_refl _))⟩
  exact ⟨by rw [sizeLine_eq]; decide, [], .nil, IsTup.new _ _⟩
theorem mulOk_ok {i j : Int} (h : mulOk i j = true) : IntMulOk i j := by
  have b : ∀ x : Int, Builtin.Int.intBits x ≤ x.natAbs.log2 + 1 := fun x => by
    unfold Builtin.Int.intBits
    split <;> omega
  have h3 : i.natAbs.log2 + j.natAbs.log2 < 100000000 := of_decide_eq_true h
  have h1 := b i
  have h2 := b j
  refine CMulX.ok ?_
  show (Builtin.Int.intBits i : Int) + (Builtin.Int.intBits j : Int) ≤ 134217728
  omega
theorem op_bin (op : Operator) : OpR X (binaryOp op) (rBin X.K ad op) := by
  intro pins s σ H x y v u Q I rx ry h
  obtain ⟨F, d, e, r, sub, lx, ly, hr, q⟩ := h
  unfold binD at hr
  split at hr
  -- int + int
  · cases hr; cases lx; cases ly
    exact op_add pins s σ H _ _ v u Q I rx ry ⟨_, _, rfl, rfl, q.int sub⟩
  -- str + str
  · split at hr
    · rename_i hz
      cases hr; cases lx; cases ly
      exact op_add_str pins s σ H _ _ v u Q I rx ry ⟨_, _, rfl, rfl, le_of_sz hz, q.str sub⟩
    · cases hr
  -- tup + tup
  · split at hr
    · rename_i hz
      cases hr
      cases lx with
      | tup a1 b1 =>
        cases ly with
        | tup a2 b2 =>
          have hz' := le_of_sz hz
          rw [← b1.len, ← b2.len] at hz'
          refine op_catA pins s σ H _ _ v u Q I rx ry ⟨_, _, _, _, rfl, rfl, SqT.mono sub a1, SqT.mono sub a2, hz', fun e => ?_, fun _ e => ?_, fun _ _ => ?_⟩
          · have e' := b1.nil_iff.mp e
            subst e e'
            exact q.same sub (.tup a2 b2)
          · have e' := b2.nil_iff.mp e
            subst e e'
            exact q.same sub (by rw [List.append_nil]; exact .tup a1 b1)
          · exact q.tup sub (b1.app b2)
    · cases hr
  -- lst + lst
  · split at hr
    · rename_i hz
      cases hr
      cases lx with
      | lst a1 b1 =>
        cases ly with
        | lst a2 b2 =>
          have hz' := le_of_sz hz
          rw [← b1.len, ← b2.len] at hz'
          exact op_cat pins s σ H _ _ v u Q I rx ry ⟨_, _, _, _, rfl, rfl, a1, a2, hz', q.lst sub (b1.app b2)⟩
    · cases hr
  -- int - int
  · cases hr; cases lx; cases ly
    exact op_sub pins s σ H _ _ v u Q I rx ry ⟨_, _, rfl, rfl, q.int sub⟩
  -- int * int
  · split at hr
    · rename_i hm
      cases hr; cases lx; cases ly
      obtain ⟨t, rfl⟩ := rx
      obtain ⟨t', rfl⟩ := ry
      exact mul_int ⟨.int _, H, I.tok _, ⟨_, rfl⟩, q.int sub⟩ (mulOk_ok hm)
    · cases hr
  -- tup * int
  · split at hr
    · rename_i hz
      cases hr
      cases lx with
      | tup a1 b1 =>
        cases ly
        simp only [Bool.and_eq_true, decide_eq_true_eq] at hz
        obtain ⟨⟨h1, h2⟩, h3⟩ := hz
        rename_i ys j _ _
        by_cases e1 : ys = [] ∨ j = 1
        · refine op_repS pins s σ H _ _ v u Q I rx ry ⟨_, _, _, rfl, rfl, SqT.mono sub a1, e1.imp b1.nil_iff.mpr id, h1, h2, ?_⟩
          have e2 : times (Int.toNat j) ys = ys := by
            rcases e1 with e | e
            · subst e; exact times_nil _
            · subst e; exact times_one _
          rw [e2] at q
          exact q.same sub (.tup a1 b1)
        · have e3 : ys ≠ [] := fun e => e1 (.inl e)
          by_cases e2 : j ≤ 0
          · refine op_rep0 pins s σ H _ _ v u Q I rx ry ⟨_, _, _, rfl, rfl, SqT.mono sub a1, fun e => e3 (b1.nil_iff.mp e), h1, e2, ?_⟩
            have e4 : times (Int.toNat j) ys = [] := by
              rw [Int.toNat_of_nonpos e2]
              rfl
            rw [e4] at q
            exact q.tup sub .nil
          · exact op_repT pins s σ H _ _ v u Q I rx ry ⟨_, _, _, rfl, rfl, SqT.mono sub a1, fun e => e3 (b1.nil_iff.mp e), by have : j ≠ 1 := fun e => e1 (.inr e); omega, h2, by rw [b1.len]; exact h3, q.tup sub (b1.rep _)⟩
    · cases hr
  -- lst * int
  · split at hr
    · rename_i hz
      cases hr
      cases lx with
      | lst a1 b1 =>
        cases ly
        simp only [Bool.and_eq_true, decide_eq_true_eq] at hz
        obtain ⟨⟨h1, h2⟩, h3⟩ := hz
        have h3' := le_of_sz h3
        rw [← b1.len] at h3'
        exact op_rep pins s σ H _ _ v u Q I rx ry ⟨_, _, _, rfl, rfl, a1, by omega, by omega, h3', q.lst sub (b1.rep _)⟩
    · cases hr
  -- //
  · split at hr
    · cases hr
    · rename_i h0
      split at hr
      · cases hr
      · rename_i hp
        cases hr; cases lx; cases ly
        obtain ⟨t, rfl⟩ := rx
        obtain ⟨t', rfl⟩ := ry
        exact floordiv_int h0 ⟨.int _, H, I.tok _, ⟨_, rfl⟩, q.int sub⟩ (.inl (by simpa using hp))
  -- %
  · split at hr
    · cases hr
    · rename_i h0
      cases hr; cases lx; cases ly
      exact op_modN pins s σ H _ _ v u Q I rx ry ⟨_, _, rfl, rfl, h0, q.int sub⟩
  -- **
  · split at hr
    · rename_i hz
      cases hr; cases lx; cases ly
      simp only [Bool.and_eq_true, decide_eq_true_eq] at hz
      obtain ⟨t, rfl⟩ := rx
      obtain ⟨t', rfl⟩ := ry
      exact pow_int hz.1 (by omega) ⟨.int _, H, I.tok _, ⟨_, rfl⟩, q.int sub⟩
    · cases hr
  · cases hr
theorem isNon_of {v : V} {d : D} (h : Lk K ad F H v d) : decide (v = .non) = isNon d := by
  cases h <;> rfl
theorem eqD_of {d e : D} {b : Bool} (h : eqD d e = some b) : ∃ p q, toPy d = some p ∧ toPy e = some q ∧ SeqAt.shaped p = true ∧ SeqAt.shaped q = true ∧ b = PyData.eqv p q := by
  unfold eqD at h
  obtain ⟨p, e1, h⟩ := Option.bind_eq_some_iff.mp h
  obtain ⟨q, e2, h⟩ := Option.bind_eq_some_iff.mp h
  split at h
  · rename_i hs
    rw [Bool.and_eq_true] at hs
    cases h
    exact ⟨p, q, e1, e2, hs.1, hs.2, rfl⟩
  · cases h
theorem op_cmp (op : CmpOp) (hu : X.A.units + 64 < cLine) : OpR X (compareOp op) (rCmp X.K ad op) := by
  intro pins s σ H x y v u Q I rx ry h
  obtain ⟨F, d, e, b, sub, lx, ly, hr, q⟩ := h
  unfold cmpD at hr
  split at hr
  · cases hr; cases lx; cases ly
    refine op_eq pins s σ H _ _ v u Q I rx ry ⟨rfl, ?_⟩
    rw [decide_eq_decide.mpr (show (V.str _ = V.str _) ↔ _ from ⟨fun z => V.str.inj z, fun z => congrArg V.str z⟩)]
    exact q
  · cases hr; cases lx; cases ly
    refine op_ne pins s σ H _ _ v u Q I rx ry ⟨rfl, ?_⟩
    rw [decide_eq_decide.mpr (show (V.str _ = V.str _) ↔ _ from ⟨fun z => V.str.inj z, fun z => congrArg V.str z⟩)]
    exact q
  · obtain ⟨p1, p2, e1, e2, s1, s2, rfl⟩ := eqD_of hr
    exact op_eqD hu pins s σ H _ _ v u Q I rx ry ⟨_, _, lx.dp sub e1, ly.dp sub e2, s1, s2, q⟩
  · obtain ⟨b', hb, rfl⟩ := Option.map_eq_some_iff.mp hr
    obtain ⟨p1, p2, e1, e2, s1, s2, rfl⟩ := eqD_of hb
    exact op_neD hu pins s σ H _ _ v u Q I rx ry ⟨_, _, lx.dp sub e1, ly.dp sub e2, s1, s2, q⟩
  · cases hr; cases lx; cases ly
    exact op_lt pins s σ H _ _ v u Q I rx ry ⟨_, _, rfl, rfl, q⟩
  · cases hr; cases lx; cases ly
    exact op_le pins s σ H _ _ v u Q I rx ry ⟨_, _, rfl, rfl, q⟩
  · cases hr; cases lx; cases ly
    exact op_gt pins s σ H _ _ v u Q I rx ry ⟨_, _, rfl, rfl, q⟩
  · cases hr; cases lx; cases ly
    exact op_ge pins s σ H _ _ v u Q I rx ry ⟨_, _, rfl, rfl, q⟩
  · cases hr; cases ly
    exact op_isN pins s σ H _ _ v u Q I rx ry ⟨rfl, by rw [isNon_of lx]; exact q⟩
  · cases hr; cases ly
    exact op_notN pins s σ H _ _ v u Q I rx ry ⟨rfl, by rw [isNon_of lx]; exact q⟩
  · cases hr; cases lx; cases ly
    exact op_isBl pins s σ H _ _ v u Q I rx ry ⟨_, _, rfl, rfl, q⟩
  · cases hr; cases lx; cases ly
    exact op_notBl pins s σ H _ _ v u Q I rx ry ⟨_, _, rfl, rfl, q⟩
  · cases hr
/-! ### truth -/
variable (K ad) in
def rTru (x : V) (H : Hp) (Q : Bool → Hp → Prop) : Prop := ∃ F d b, Sub F H ∧ Lk K ad F H x d ∧ truD d = some b ∧ Q b H
theorem isEmpty_of_len {α β : Type} {xs : List α} {ys : List β} (h : xs.length = ys.length) : xs.isEmpty = ys.isEmpty := by
  cases xs <;> cases ys <;> simp_all
theorem tru_d : TruR X (rTru X.K ad) := by
  intro pins s σ H x v Q I rx h
  obtain ⟨F, d, b, sub, lx, hb, q⟩ := h
  refine tru_ok pins s σ H x v Q I rx ⟨b, ?_, q⟩
  cases lx with
  | non => cases hb; rfl
  | bl b => cases hb; rfl
  | int i => cases hb; rfl
  | str y =>
    have hb' : (if szOk y.length = true then some ((y.length : Int) != 0) else none) = some b := hb
    split at hb'
    · rename_i hz
      cases hb'
      exact ⟨le_of_sz hz, rfl⟩
    · cases hb'
  | obj k => cases hb
  | tup a b1 =>
    cases hb
    exact .inr (.inl ⟨_, SqT.mono sub a, by rw [isEmpty_of_len b1.len]⟩)
  | lst a b1 =>
    cases hb
    exact .inl ⟨_, SqL.of a, by rw [isEmpty_of_len b1.len]⟩
  | scr a b1 => cases hb
/-! ### subscripts, slices -/
variable (K ad) in
def rSub : R2 := fun x y H Q => ∃ F d e r, Sub F H ∧ Lk K ad F H x d ∧ Lk K ad F H y e ∧ subD d e = some r ∧ Fin K ad F H r Q
theorem ixD_eq (n : Nat) (i : Int) : ixD n i = ixN n i := rfl
theorem at_of {vs : List V} {ds : List D} {i : Int} {d : D} (r : RpA K ad F vs ds) (h : (ixD ds.length i).bind (fun j => ds[j]?) = some d) : ∃ v, atI vs i = some v ∧ Rp K ad F v d := by
  obtain ⟨j, e1, e2⟩ := Option.bind_eq_some_iff.mp h
  obtain ⟨v, h1, h2⟩ := r.get e2
  refine ⟨v, ?_, h2⟩
  unfold atI
  rw [r.len, ← ixD_eq, e1]
  exact h1
theorem ix_d : IxR X (rSub X.K ad) := by
  intro value slice pins s σ H x y v u Q I rx ry h hs
  obtain ⟨F, d, e, r, sub, lx, ly, hr, q⟩ := h
  unfold subD at hr
  split at hr
  · cases ly
    cases lx with
    | tup a b =>
      obtain ⟨w, e1, e2⟩ := at_of b hr
      exact ix_tup value slice pins s σ H _ _ v u Q I rx ry ⟨_, _, _, _, rfl, rfl, SqT.mono sub a, e1, q.same sub e2⟩ hs
  · cases ly
    cases lx with
    | lst a b =>
      obtain ⟨w, e1, e2⟩ := at_of b hr
      exact ix_list value slice pins s σ H _ _ v u Q I rx ry ⟨_, _, _, _, rfl, rfl, SqL.of a, e1, q.same sub e2⟩ hs
  · cases ly
    cases lx with
    | scr a b =>
      obtain ⟨w, e1, e2⟩ := at_of b hr
      exact ix_list value slice pins s σ H _ _ v u Q I rx ry ⟨_, _, _, _, rfl, rfl, SqL.mono sub a, e1, q.same sub e2⟩ hs
  · cases hr
theorem endIx_eq (n d : Nat) (o : Option Int) : endIx n d o = HT.sIx n d o := by
  cases o <;> rfl
variable (K ad) in
def rSlc : V → Option Int → Option Int → Hp → VK → Prop := fun x lo hi H Q => ∃ F d r, Sub F H ∧ Lk K ad F H x d ∧ slcD d lo hi = some r ∧ Fin K ad F H r Q
theorem cut_len {vs : List V} {ds : List D} (r : RpA K ad F vs ds) (lo hi : Option Int) : RpA K ad F (cutV vs lo hi) (cutD ds lo hi) := by
  unfold cutV cutD
  rw [endIx_eq, endIx_eq, ← r.len]
  exact (r.drop _).take _
theorem sl_d : SlR X (rSlc X.K ad) := by
  intro pins s σ H x v vl vu lo hi sl Q I rx hsl pl pu h
  obtain ⟨F, d, r, sub, lx, hr, q⟩ := h
  unfold slcD at hr
  split at hr
  · cases hr
    cases lx with
    | tup a b =>
      refine sl_tupA pins s σ H _ v vl vu lo hi sl Q I rx hsl pl pu ⟨_, _, rfl, SqT.mono sub a, fun hw => ?_, fun _ => q.tup sub (cut_len b lo hi)⟩
      refine q.same sub (.tup a ?_)
      rename_i vs
      have e : cutV vs lo hi = vs := by
        unfold cutV
        rw [hw.1, hw.2, List.drop_zero, Nat.sub_zero, List.take_length]
      have := cut_len b lo hi
      rw [e] at this
      exact this
  · cases hr
    cases lx with
    | lst a b => exact sl_list pins s σ H _ v vl vu lo hi sl Q I rx hsl pl pu ⟨_, _, rfl, SqL.of a, q.lst sub (cut_len b lo hi)⟩
  · cases hr
end
end EV

set_option Elab.async false
set_option linter.all false
set_option maxRecDepth 100000
/-! EV, part D: built-ins by values. -/
namespace EV
open PySem PySem.Spec PyProof.Rows L2
section
variable (K : PySem.W.Frag) (ad : Nat → Addr)
inductive LkA (F H : Hp) : List V → List D → Prop
  | nil : LkA F H [] []
  | cons {v : V} {vs : List V} {d : D} {ds : List D} : Lk K ad F H v d → LkA F H vs ds → LkA F H (v :: vs) (d :: ds)
def rBlt (b : Bt) : List V → Hp → VK → Prop := fun xs H Q => ∃ F ds r, Sub F H ∧ LkA K ad F H xs ds ∧ bltD b ds = some r ∧ Fin K ad F H r Q
end
section
variable {K : PySem.W.Frag} {ad : Nat → Addr} {F H : Hp} {Q : VK}
theorem LkA.one {xs : List V} {d : D} (h : LkA K ad F H xs [d]) : ∃ x, xs = [x] ∧ Lk K ad F H x d := by
  cases h with
  | cons a b => cases b; exact ⟨_, rfl, a⟩
theorem LkA.two {xs : List V} {d e : D} (h : LkA K ad F H xs [d, e]) : ∃ x y, xs = [x, y] ∧ Lk K ad F H x d ∧ Lk K ad F H y e := by
  cases h with
  | cons a b =>
    obtain ⟨y, rfl, c⟩ := LkA.one b
    exact ⟨_, _, rfl, a, c⟩
theorem all_bls : ∀ {ds : List D} {vs : List V} {b : Bool}, RpA K ad F vs ds → allD ds = some b → ∃ bs : List Bool, vs = bs.map V.bl ∧ b = bs.all id
  | [], _, _, h, e => by cases h; cases e; exact ⟨[], rfl, rfl⟩
  | d :: ds, _, b, h, e => by
    cases h with
    | cons a r =>
      cases a with
      | bl c =>
        have e' : (allD ds).map (c && ·) = some b := e
        obtain ⟨b', h1, rfl⟩ := Option.map_eq_some_iff.mp e'
        obtain ⟨bs, rfl, rfl⟩ := all_bls r h1
        exact ⟨c :: bs, rfl, rfl⟩
      | non => cases e
      | int _ => cases e
      | str _ => cases e
      | obj _ => cases e
      | tup _ _ => cases e
      | lst _ _ => cases e
      | scr _ _ => cases e
theorem any_bls : ∀ {ds : List D} {vs : List V} {b : Bool}, RpA K ad F vs ds → anyD ds = some b → ∃ bs : List Bool, vs = bs.map V.bl ∧ b = bs.any id
  | [], _, _, h, e => by cases h; cases e; exact ⟨[], rfl, rfl⟩
  | d :: ds, _, b, h, e => by
    cases h with
    | cons a r =>
      cases a with
      | bl c =>
        have e' : (anyD ds).map (c || ·) = some b := e
        obtain ⟨b', h1, rfl⟩ := Option.map_eq_some_iff.mp e'
        obtain ⟨bs, rfl, rfl⟩ := any_bls r h1
        exact ⟨c :: bs, rfl, rfl⟩
      | non => cases e
      | int _ => cases e
      | str _ => cases e
      | obj _ => cases e
      | tup _ _ => cases e
      | lst _ _ => cases e
      | scr _ _ => cases e
def btVal : Bt → Value
  | .len => .builtin "len"
  | .abs => .builtin "abs"
  | .int => .type "int"
  | .bool => .type "bool"
  | .max2 => .builtin "max"
  | .min2 => .builtin "min"
  | .tuple => .type "tuple"
  | .list => .type "list"
  | .all => .builtin "all"
  | .any => .builtin "any"
  | .repr => .builtin "repr"
  | .sum => .builtin "sum"
  | .max1 => .builtin "max"
  | .min1 => .builtin "min"
variable {X : Cx}
theorem reprD_of {d : D} {x : Str} (h : reprD d = some x) : ∃ p, toPy d = some p ∧ p.showable = true ∧ p.depth ≤ 40 ∧ p.shown.length ≤ sizeLine ∧ SeqAt.shaped p = true ∧ x = p.shown := by
  unfold reprD at h
  obtain ⟨p, e1, h⟩ := Option.bind_eq_some_iff.mp h
  split at h
  · rename_i hs
    simp only [Bool.and_eq_true, decide_eq_true_eq] at hs
    cases h
    exact ⟨p, e1, hs.1.1.1, hs.1.1.2, le_of_sz hs.1.2, hs.2, rfl⟩
  · cases h
theorem call_reprD (hg : X.A.guards = some []) (hu : X.A.units + 64 < cLine) : CallR X (.builtin "repr") (rBlt X.K ad .repr) := by
  intro pins s σ H xs us Q I r h
  obtain ⟨F, ds, z, sub, lk, hb, q⟩ := h
  unfold bltD at hb
  split at hb <;> first | (cases hb; done) | skip
  all_goals try contradiction
  obtain ⟨x, hx, rfl⟩ := Option.map_eq_some_iff.mp hb
  obtain ⟨v, rfl, l⟩ := lk.one
  obtain ⟨u, rfl, ru⟩ := vals1 r
  obtain ⟨p, e1, h1, h2, h3, h4, rfl⟩ := reprD_of hx
  obtain ⟨as, rd⟩ := Dp.reads I p v u (l.dp sub e1) ru
  have fin : ∀ (h' : Heap) (t : Tok) (tk : Nat), (∀ b o, s.heap.get? b = some o → h'.get? b = some o) → EP X pins σ Q (.str p.shown t) { s with heap := h', toks := tk } :=
    fun h' t tk k => ⟨.str p.shown, H, I.kept k, ⟨t, rfl⟩, q.str sub⟩
  cases l with
  | non => cases e1; cases ru; exact PySem.P.repr_of_none ⟨.str _, H, I.tok _, ⟨_, rfl⟩, q.str sub⟩
  | bl b =>
    cases e1; cases ru
    exact PySem.P.repr_of_bool ⟨.str _, H, I.tok _, ⟨_, rfl⟩, q.str sub⟩
  | int i =>
    cases e1
    obtain ⟨t, rfl⟩ := ru
    exact PySem.P.repr_of_int (of_decide_eq_true h1) ⟨.str _, H, I.tok _, ⟨_, rfl⟩, q.str sub⟩
  | str y =>
    cases e1
    obtain ⟨t, rfl⟩ := ru
    exact PySem.P.repr_of_str ⟨.str _, H, I.tok _, ⟨_, rfl⟩, q.str sub⟩ h3
  | obj k => cases e1
  | tup a b =>
    cases ru
    exact repr_of_reads' rd h1 (PyData.noDict_hsm (PyData.hasDict_of_canLay _ (SeqAt.canLay_of_shaped h4))) hg (by omega) (fun _ _ e => e) (fun h' t tk k => fin h' t tk k) h3
  | lst a b =>
    cases ru
    exact repr_of_reads' rd h1 (PyData.noDict_hsm (PyData.hasDict_of_canLay _ (SeqAt.canLay_of_shaped h4))) hg (by omega) (fun _ _ e => e) (fun h' t tk k => fin h' t tk k) h3
  | scr a b => cases e1
theorem int_vs {F : Hp} : ∀ {vs : List V} {ds : List D} {is : List Int}, RpA K ad F vs ds → intsD ds = some is → vs = is.map V.int
  | _, _, _, .nil, e => by cases e; rfl
  | _, _, _, .cons (d := .int i) a b, e => by
    have e' : (intsD _).map (i :: ·) = some _ := e
    obtain ⟨js, e1, rfl⟩ := Option.map_eq_some_iff.mp e'
    cases a
    rw [int_vs b e1]
    rfl
  | _, _, _, .cons (d := .non) _ _, e => by cases e
  | _, _, _, .cons (d := .bl _) _ _, e => by cases e
  | _, _, _, .cons (d := .str _) _ _, e => by cases e
  | _, _, _, .cons (d := .obj _) _ _, e => by cases e
  | _, _, _, .cons (d := .tup _) _ _, e => by cases e
  | _, _, _, .cons (d := .lst _) _ _, e => by cases e
  | _, _, _, .cons (d := .scr _) _ _, e => by cases e
theorem blt_ok (hc : X.calm = true) (hg : X.A.guards = some []) (hu : X.A.units + 64 < cLine) (b : Bt) : CallR X (btVal b) (rBlt X.K ad b) := by
  intro pins s σ H xs us Q I r h
  obtain ⟨F, ds, z, sub, lk, hb, q⟩ := id h
  unfold bltD at hb
  split at hb
  · cases hb
    obtain ⟨v, rfl, l⟩ := lk.one
    cases l with
    | tup a b => exact call_len_seq pins s σ H _ us Q I r ⟨_, _, rfl, .inr (SqT.mono sub a), by rw [b.len]; exact q.int sub⟩
  · cases hb
    obtain ⟨v, rfl, l⟩ := lk.one
    cases l with
    | lst a b => exact call_len_seq pins s σ H _ us Q I r ⟨_, _, rfl, .inl (SqL.of a), by rw [b.len]; exact q.int sub⟩
  · cases hb
    obtain ⟨v, rfl, l⟩ := lk.one
    cases l with
    | scr a b => exact call_len_seq pins s σ H _ us Q I r ⟨_, _, rfl, .inl (SqL.mono sub a), by rw [b.len]; exact q.int sub⟩
  · split at hb
    · rename_i hz
      cases hb
      obtain ⟨v, rfl, l⟩ := lk.one
      cases l
      exact call_len_str pins s σ H _ us Q I r ⟨_, rfl, le_of_sz hz, q.int sub⟩
    · cases hb
  · cases hb
    obtain ⟨v, rfl, l⟩ := lk.one
    cases l
    exact call_abs pins s σ H _ us Q I r ⟨_, rfl, q.int sub⟩
  · cases hb
    obtain ⟨v, rfl, l⟩ := lk.one
    cases l
    exact call_int1 pins s σ H _ us Q I r (.inl ⟨_, rfl, q.int sub⟩)
  · cases hb
    obtain ⟨v, rfl, l⟩ := lk.one
    cases l
    exact call_int1 pins s σ H _ us Q I r (.inr ⟨_, rfl, q.int sub⟩)
  · cases hb
    obtain ⟨v, rfl, l⟩ := lk.one
    cases l
    exact call_bool1 pins s σ H _ us Q I r (.inl ⟨_, rfl, q.bl sub⟩)
  · cases hb
    obtain ⟨v, rfl, l⟩ := lk.one
    cases l
    exact call_bool1 pins s σ H _ us Q I r (.inr ⟨_, rfl, q.bl sub⟩)
  · cases hb
    obtain ⟨v, w, rfl, l, l'⟩ := lk.two
    cases l; cases l'
    exact call_max2 hc pins s σ H _ us Q I r ⟨_, _, rfl, q.int sub⟩
  · cases hb
    obtain ⟨v, w, rfl, l, l'⟩ := lk.two
    cases l; cases l'
    exact call_min2 hc pins s σ H _ us Q I r ⟨_, _, rfl, q.int sub⟩
  · cases hb
    obtain ⟨v, rfl, l⟩ := lk.one
    cases l with
    | tup a b => exact call_tuple_of pins s σ H _ us Q I r ⟨_, _, rfl, .inr ⟨SqT.mono sub a, q.same sub (.tup a b)⟩⟩
  · cases hb
    obtain ⟨v, rfl, l⟩ := lk.one
    cases l with
    | lst a b => exact call_tuple_of pins s σ H _ us Q I r ⟨_, _, rfl, .inl ⟨SqL.of a, q.tup sub b⟩⟩
  · cases hb
    obtain ⟨v, rfl, l⟩ := lk.one
    cases l with
    | tup a b => exact call_list_of pins s σ H _ us Q I r ⟨_, _, rfl, .inr (SqT.mono sub a), q.lst sub b⟩
  · cases hb
    obtain ⟨v, rfl, l⟩ := lk.one
    cases l with
    | lst a b => exact call_list_of pins s σ H _ us Q I r ⟨_, _, rfl, .inl (SqL.of a), q.lst sub b⟩
  · obtain ⟨c, hb', rfl⟩ := Option.map_eq_some_iff.mp hb
    obtain ⟨v, rfl, l⟩ := lk.one
    cases l with
    | lst a b =>
      obtain ⟨bs, rfl, rfl⟩ := all_bls b hb'
      exact cr_all hc pins s σ H _ us Q I r ⟨_, _, rfl, SqL.of a, q.bl sub⟩
  · obtain ⟨c, hb', rfl⟩ := Option.map_eq_some_iff.mp hb
    obtain ⟨v, rfl, l⟩ := lk.one
    cases l with
    | lst a b =>
      obtain ⟨bs, rfl, rfl⟩ := any_bls b hb'
      exact cr_any hc pins s σ H _ us Q I r ⟨_, _, rfl, SqL.of a, q.bl sub⟩
  · exact call_reprD hg hu pins s σ H xs us Q I r h
  · obtain ⟨is, hi, rfl⟩ := Option.map_eq_some_iff.mp hb
    obtain ⟨v, rfl, l⟩ := lk.one
    cases l with
    | lst a b => exact cr_sum hc pins s σ H _ us Q I r ⟨_, is, rfl, by rw [← int_vs b hi]; exact SqL.of a, q.int sub⟩
  · obtain ⟨is, hi, hb⟩ := Option.bind_eq_some_iff.mp hb
    obtain ⟨m, hm, rfl⟩ := Option.map_eq_some_iff.mp hb
    obtain ⟨v, rfl, l⟩ := lk.one
    obtain ⟨h1, h2⟩ := List.max?_eq_some_iff.mp hm
    cases l with
    | lst a b => exact cr_max hc pins s σ H _ us Q I r ⟨_, is, rfl, by rw [← int_vs b hi]; exact SqL.of a, List.length_pos_of_mem h1, fun m' g1 g2 => by
        have e : m' = m := Int.le_antisymm (h2 _ g1) (g2 _ h1)
        subst e
        exact q.int sub⟩
  · obtain ⟨is, hi, hb⟩ := Option.bind_eq_some_iff.mp hb
    obtain ⟨m, hm, rfl⟩ := Option.map_eq_some_iff.mp hb
    obtain ⟨v, rfl, l⟩ := lk.one
    obtain ⟨h1, h2⟩ := List.min?_eq_some_iff.mp hm
    cases l with
    | lst a b => exact cr_min hc pins s σ H _ us Q I r ⟨_, is, rfl, by rw [← int_vs b hi]; exact SqL.of a, List.length_pos_of_mem h1, fun m' g1 g2 => by
        have e : m' = m := Int.le_antisymm (g2 _ h1) (h2 _ g1)
        subst e
        exact q.int sub⟩
  · cases hb
/-! ### isinstance -/
theorem kit_tab : ∀ n ∈ ["NoneType", "bool", "int", "str", "tuple", "list"], ∀ t ∈ ["int", "bool", "str", "tuple", "list", "dict"], kitB n t = some (n == t || (n == "bool" && t == "int")) := by decide +kernel
theorem Lk.ty {v : V} {d : D} {n : String} (sub : Sub F H) (h : Lk K ad F H v d) (e : tyName d = some n) : TyX K H v (.type n) ∧ n ∈ ["NoneType", "bool", "int", "str", "tuple", "list"] := by
  cases h with
  | non => cases e; exact ⟨.base .non, by decide⟩
  | bl b => cases e; exact ⟨.base (.bl b), by decide⟩
  | int i => cases e; exact ⟨.base (.int i), by decide⟩
  | str x => cases e; exact ⟨.base (.str x), by decide⟩
  | obj k => cases e
  | tup a b =>
    cases e
    refine ⟨?_, by decide⟩
    rcases a with (a | ⟨o, a⟩) | ⟨o, its, n, a1, a2, _⟩
    · exact .base (.tup (sub _ _ a))
    · exact .fTuple (sub _ _ a)
    · exact .kTuple a1 a2
  | lst a b => cases e; exact ⟨.base (.lst a), by decide⟩
  | scr a b => cases e
variable (K ad) in
def rIsiD (t : String) : List V → Hp → VK → Prop := fun xs H Q => ∃ F x d b, xs = [x, .ty t] ∧ Sub F H ∧ Lk K ad F H x d ∧ isiD d t = some b ∧ Q (.bl b) H
theorem isi_ok (t : String) : CallR X (.builtin "isinstance") (rIsiD X.K ad t) := by
  intro pins s σ H xs us Q I r h
  obtain ⟨F, x, d, b, rfl, sub, l, hb, q⟩ := h
  unfold isiD at hb
  split at hb
  · rename_i ht
    obtain ⟨n, hn, rfl⟩ := Option.map_eq_some_iff.mp hb
    obtain ⟨h1, h2⟩ := l.ty sub hn
    exact call_isi pins s σ H _ us Q I r ⟨x, .ty t, .type n, .type t, _, rfl, .ty t, h1, kit_ty (kit_tab n h2 t (by simpa using ht)), q⟩
  · cases hb
end
end EV

set_option Elab.async false
set_option linter.all false
set_option maxRecDepth 100000
set_option maxHeartbeats 4000000
/-! EV, part E: the language against the syntax; what an expression gives. -/
namespace EV
open PySem PySem.Spec PyProof.Rows L2
/-! ### names -/
structure Wn where
  fnm : List Str
  bs : List Str
def isKind (sc : Scope) (x : Str) (k : NameKind) : Bool := match sc.names.lookup x with
  | some j => decide (j = k)
  | none => false
def visB (sc : Scope) (x : Str) : Bool := isKind sc x .local || isKind sc x .cell || isKind sc x .free
def locB (sc : Scope) (x : Str) : Bool := isKind sc x .local || isKind sc x .cell
def glbB (sc : Scope) (x : Str) : Bool := isKind sc x .globalImplicit
def okNm (x : Str) : Bool := !(x == ("__debug__" : Str)) && !(x == ("__classdict__" : Str)) && !decide (x = ("__name__" : Str))
def atB (N : List Str) (i : Nat) (x : Str) : Bool := decide (N[i]? = some x)
theorem isKind_of {sc : Scope} {x : Str} {k : NameKind} (h : isKind sc x k = true) : sc.names.lookup x = some k := by
  unfold isKind at h
  split at h
  · rename_i j e
    rw [e, of_decide_eq_true h]
  · cases h
theorem visB_of {sc : Scope} {x : Str} (h : visB sc x = true) : Vis sc x := by
  simp only [visB, Bool.or_eq_true] at h
  rcases h with (h | h) | h
  · exact .inl (isKind_of h)
  · exact .inr (.inl (isKind_of h))
  · exact .inr (.inr (isKind_of h))
theorem locB_of {sc : Scope} {x : Str} (h : locB sc x = true) : Loc sc x := by
  simp only [locB, Bool.or_eq_true] at h
  rcases h with h | h
  · exact .inl (isKind_of h)
  · exact .inr (isKind_of h)
theorem okNm_of {x : Str} (h : okNm x = true) : (x == ("__debug__" : Str)) = false ∧ (x == ("__classdict__" : Str)) = false ∧ x ≠ "__name__" := by
  simp only [okNm, Bool.and_eq_true, Bool.not_eq_true', decide_eq_false_iff_not] at h
  exact ⟨h.1.1, h.1.2, h.2⟩
def starB : Expr → Bool
  | .Starred _ _ => true
  | _ => false
theorem star_each {e : Expr} (h : starB e = false) (es : List Expr) (env : Env) : starEach (e :: es) env = (false, eval e env) :: starEach es env := by
  cases e <;> first | rfl | cases h
theorem star_any : ∀ {es : List Expr}, es.all (fun e => !starB e) = true → ∀ (pos : Pos) (env : Env), (backTo pos (starEach es env)).any (·.1) = false
  | [], _, _, _ => rfl
  | e :: es, h, pos, env => by
    rw [List.all_cons, Bool.and_eq_true, Bool.not_eq_true'] at h
    rw [star_each h.1]
    show (false || (backTo pos (starEach es env)).any (·.1)) = false
    rw [star_any h.2]
    rfl
/-- the scope that a comprehension's block has within sc -/
def inScope (scope sc : Scope) : Scope :=
  { scope with names := scope.names.map fun (n, k) => if (k == .free && sc.kind == .function && sc.names.lookup n == some .cell) then (n, .cell) else (n, k) }
def btNm : Bt → Str
  | .len => "len" | .abs => "abs" | .int => "int" | .bool => "bool" | .max2 => "max" | .min2 => "min" | .tuple => "tuple" | .list => "list"
  | .all => "all" | .any => "any" | .repr => "repr" | .sum => "sum" | .max1 => "max" | .min1 => "min"
theorem bt_boot (b : Bt) : bootBuiltins (btNm b) = some (btVal b) := by cases b <;> decide +kernel
theorem bt_ok (b : Bt) : okNm (btNm b) = true := by cases b <;> decide +kernel
def tyNms : List (String × Str) := [("int", "int"), ("bool", "bool"), ("str", "str"), ("tuple", "tuple"), ("list", "list"), ("dict", "dict")]
theorem ty_boot : ∀ p ∈ tyNms, bootBuiltins p.2 = some (.type p.1) ∧ okNm p.2 = true := by decide +kernel
/-- simple syntax where a test is the value's truth -/
def plainT : Expr → Bool
  | .UnaryOp .Not _ _ => false
  | .BoolOp _ _ _ => false
  | .IfExp _ _ _ _ => false
  | .Compare _ _ _ _ => false
  | _ => true
theorem plainT_of {e : Expr} (h : plainT e = true) (env : Env) : ∀ whole, isTrue e env whole = (do let v ← whole; standAt e.pos; holding [v] (truthy v)) := by
  intro whole
  cases e with
  | UnaryOp op _ _ => cases op <;> first | rfl | cases h
  | BoolOp => cases h
  | IfExp => cases h
  | Compare => cases h
  | _ => rfl
def setB : Expr → Bool
  | .Set _ _ _ => true
  | _ => false
theorem set_fold {e : Expr} (h : setB e = false) (env : Env) : ∀ x, foldedSetIterable e env x = pure x := by
  intro x
  cases e <;> first | rfl | cases h
def sliceB : Expr → Bool
  | .Slice _ _ _ _ => true
  | _ => false
theorem slice_ix {e : Expr} (h : sliceB e = false) : PlainIx e := by
  intro o i
  cases e <;> first | rfl | cases h
def inB : CmpOp → Bool
  | .In => true
  | .NotIn => true
  | _ => false
theorem nomarkB {op : CmpOp} (h : inB op = false) (b : Expr) : behindInMarks op b = false := by
  cases op <;> first | exact nomark b | cases h

/-! ### the matching -/
mutual
def matTg (N : List Str) (sc : Scope) : Tg → Expr → Bool
  | .nm i, .Name x _ => atB N i x && locB sc x
  | .tp ts, .Tuple es _ _ => matTgs N sc ts es
  | _, _ => false
def matTgs (N : List Str) (sc : Scope) : List Tg → List Expr → Bool
  | [], [] => true
  | t :: ts, e :: es => matTg N sc t e && matTgs N sc ts es
  | _, _ => false
end
def ownsOf (N : List Str) (tg : Tg) : List (Str × Nat) := (slotsOf tg).filterMap fun i => N[i]?.map fun x => (x, i)
def isTupE : Expr → Bool
  | .Tuple _ _ _ => true
  | _ => false
/-- the head of what is walked, and the expressions in it -/
def itExprs : IK → Expr → List Expr
  | .seq, e => [e]
  | _, .Call _ es _ _ => es
  | _, _ => []
def itNm : IK → Str
  | .seq => "" | .rng1 => "range" | .rng2 => "range" | .enum => "enumerate" | .zip => "zip"
def itLen : IK → Nat
  | .seq => 1 | .rng1 => 1 | .rng2 => 2 | .enum => 1 | .zip => 2
def matItH (n : Wn) (sc : Scope) (ik : IK) (e : Expr) (tp : Bool) : Bool := match ik, e with
  | .seq, _ => true
  | ik, .Call (.Name x _) es [] _ => decide (x = itNm ik) && decide (es.length = itLen ik) && n.bs.contains x && glbB sc x && (tp || decide (ik = .rng1) || decide (ik = .rng2))
  | _, _ => false
mutual
def matE (W : Wd) (n : Wn) (N : List Str) : Ex → Scope → Expr → Bool
  | .var i, sc, .Name x _ => atB N i x && visB sc x && okNm x
  | .cst (.int i), _, .Constant (.int j) _ _ => decide (i = j)
  | .cst (.bl i), _, .Constant (.bool j) _ _ => decide (i = j)
  | .cst .non, _, .Constant .none _ _ => true
  | .cst (.str x), _, .Constant (.str y) _ _ => decide (x = y)
  | .glo g, sc, .Name x _ => (match W.con[g]? with
    | some p => decide (p.1 = x)
    | none => false) && glbB sc x && okNm x
  | .tup es, sc, .Tuple es' _ _ => matEs W n N es sc es'
  | .lst es, sc, .List es' _ => matEs W n N es sc es'
  | .lsts fl es, sc, .List es' _ => matEd W n N fl es sc es'
  | .bin op a b, sc, .BinOp a' op' b' _ => decide (op = op') && matE W n N a sc a' && matE W n N b sc b'
  | .neg a, sc, .UnaryOp .USub a' _ => matE W n N a sc a'
  | .nt a, sc, .UnaryOp .Not a' _ => matE W n N a sc a'
  | .cmp op a b, sc, .Compare a' [op'] [b'] _ => decide (op = op') && !inB op && matE W n N a sc a' && matE W n N b sc b'
  | .chain op1 op2 a b c, sc, .Compare a' [op1', op2'] [b', c'] _ => decide (op1 = op1') && decide (op2 = op2') && !inB op1 && !inB op2 && matE W n N a sc a' && matE W n N b sc b' && matE W n N c sc c'
  | .andl es, sc, .BoolOp .And es' _ => matEs W n N es sc es'
  | .orl es, sc, .BoolOp .Or es' _ => matEs W n N es sc es'
  | .ite c a b, sc, .IfExp c' a' b' _ => matT W n N c sc c' && matE W n N a sc a' && matE W n N b sc b'
  | .sub a i, sc, .Subscript a' i' _ => matE W n N a sc a' && matE W n N i sc i' && !sliceB i'
  | .slc .both a es, sc, .Subscript a' (.Slice (some lo) (some hi) none _) _ => matE W n N a sc a' && matEs W n N es sc [lo, hi]
  | .slc .lo a es, sc, .Subscript a' (.Slice (some lo) none none _) _ => matE W n N a sc a' && matEs W n N es sc [lo]
  | .slc .hi a es, sc, .Subscript a' (.Slice none (some hi) none _) _ => matE W n N a sc a' && matEs W n N es sc [hi]
  | .slc .no a es, sc, .Subscript a' (.Slice none none none _) _ => matE W n N a sc a' && matEs W n N es sc []
  | .rev a, sc, .Subscript a' (.Slice none none (some (.UnaryOp .USub (.Constant (.int 1) _ _) _)) _) _ => matE W n N a sc a'
  | .call k es, sc, .Call (.Name x _) es' [] _ => (match n.fnm[k]? with
    | some y => decide (y = x)
    | none => false) && glbB sc x && okNm x && matEs W n N es sc es'
  | .blt b es, sc, .Call (.Name x _) es' [] _ => decide (btNm b = x) && n.bs.contains x && glbB sc x && !es'.isEmpty && matEs W n N es sc es'
  | .isi a t, sc, .Call (.Name x _) [a', .Name y _] [] _ => decide (x = ("isinstance" : Str)) && n.bs.contains x && glbB sc x && matE W n N a sc a' && tyNms.contains (t, y) && n.bs.contains y && glbB sc y
  | .comp tg ik src ifs elt, sc, .ListComp elt' [⟨tg', iter', ifs', z⟩] scope _ =>
    decide (z = 0) && blkC N sc scope (ownsOf N tg) && decide ((ownsOf N tg).map (·.2) = slotsOf tg) && matTg N scope tg tg' && matItH n sc ik iter' (isTupE tg') && matEs W n N src sc (itExprs ik iter') && !setB iter' && matIfs W n N ifs (inScope scope sc) ifs' && matE W n N elt (inScope scope sc) elt'
  | _, _, _ => false
def matEs (W : Wd) (n : Wn) (N : List Str) : List Ex → Scope → List Expr → Bool
  | [], _, [] => true
  | e :: es, sc, e' :: es' => !starB e' && matE W n N e sc e' && matEs W n N es sc es'
  | _, _, _ => false
def matEd (W : Wd) (n : Wn) (N : List Str) : List Bool → List Ex → Scope → List Expr → Bool
  | [], [], _, [] => true
  | true :: fl, e :: es, sc, .Starred e' _ :: es' => matE W n N e sc e' && matEd W n N fl es sc es'
  | false :: fl, e :: es, sc, e' :: es' => !starB e' && matE W n N e sc e' && matEd W n N fl es sc es'
  | _, _, _, _ => false
/-- a test -/
def matT (W : Wd) (n : Wn) (N : List Str) : Tx → Scope → Expr → Bool
  | .cmp op a b, sc, .Compare a' [op'] [b'] _ => decide (op = op') && !inB op && matE W n N a sc a' && matE W n N b sc b'
  | .chain op1 op2 a b c, sc, .Compare a' [op1', op2'] [b', c'] _ => decide (op1 = op1') && decide (op2 = op2') && !inB op1 && !inB op2 && matE W n N a sc a' && matE W n N b sc b' && matE W n N c sc c'
  | .val e, sc, e' => plainT e' && matE W n N e sc e'
  | .nt a, sc, .UnaryOp .Not a' _ => matT W n N a sc a'
  | .andl ts, sc, .BoolOp .And es' _ => matTs W n N ts sc es'
  | .orl ts, sc, .BoolOp .Or es' _ => matTs W n N ts sc es'
  | _, _, _ => false
def matTs (W : Wd) (n : Wn) (N : List Str) : List Tx → Scope → List Expr → Bool
  | [], _, [] => true
  | t :: ts, sc, e' :: es' => matT W n N t sc e' && matTs W n N ts sc es'
  | _, _, _ => false
def matIfs (W : Wd) (n : Wn) (N : List Str) : List Tx → Scope → List Expr → Bool
  | [], _, [] => true
  | [c], sc, [c'] => matT W n N c sc c'
  | _, _, _ => false
end
end EV

set_option Elab.async false
set_option linter.all false
set_option maxRecDepth 100000
set_option maxHeartbeats 4000000
/-! EV, part F: the readings of expressions, by the rules of the hand layer. -/
namespace EV
open PySem PySem.Spec PyProof.Rows L2
section
variable (K : PySem.W.Frag) (ad : Nat → Addr) (XR : Xc → Value → Option Addr → Hp → Hp → Prop) (Wi : XK) (W : Wd) (C : Cal)
def relV (L : List Addr) : Hp → Hp → Vl → V → Prop := fun F' _ v x => VlR K ad L F' v x
def relVs (L : List Addr) : Hp → Hp → List Vl → List V → Prop := fun F' _ vs xs => VlRs K ad L F' vs xs
def relB : Hp → Hp → Bool → Bool → Prop := fun _ _ a b => a = b
/-- a list that is new behind H0 and not frozen -/
def relN (H0 : Hp) : Hp → Hp → List D → V → Prop := fun F' H' ds x => ∃ a vs, x = .ref a ∧ F' a = none ∧ H0 a = none ∧ H' a = some (.lst vs) ∧ RpA K ad F' vs ds
def relR (L : List Addr) (H0 : Hp) : Hp → Hp → RV → V → Prop := fun F' H' r x => match r with
  | .vl v => VlR K ad L F' v x
  | .new ds => relN K ad H0 F' H' ds x
def tE (e : Ex) : TE := fun σ H Q => ∃ s L m F, SltR K ad L F s σ ∧ StoR K ad L m F H ∧ Hold K ad XR Wi (relV K ad L) (ev W C e s m) L m F H Q
def tEs (es : List Ex) : TA := fun σ H Q => ∃ s L m F, SltR K ad L F s σ ∧ StoR K ad L m F H ∧ Hold K ad XR Wi (relVs K ad L) (evs W C es s m) L m F H Q
def relD : Hp → Hp → List D → List V → Prop := fun F' _ ds xs => RpA K ad F' xs ds
def tEd (fl : List Bool) (es : List Ex) : TA := fun σ H Q => ∃ s L m F, SltR K ad L F s σ ∧ StoR K ad L m F H ∧ Hold K ad XR Wi (relD K ad) (evd W C fl es s m) L m F H Q
def tT (e : Tx) : TT := fun σ H Q => ∃ s L m F, SltR K ad L F s σ ∧ StoR K ad L m F H ∧ Hold K ad XR Wi relB (evT W C e s m) L m F H Q
/-- a def's promise, in the words of the evaluator -/
def FnG (P : Program) (w : World) (mg : Str → Option Value) (base : Heap) (lv : Nat) (f : Addr) (g : List Vl → Sto → R RV) : Prop :=
  ∀ (A : Around) (outer : List Env) (s : Shared) (H : Hp) (us : List Value) (vs : List V) (Q : VK) (E : XK) (L : List Addr) (m : Sto) (F : Hp) (as : List Vl),
    Room lv A → A.guards = some [] → Env0 P w K mg base A outer s H → Vals vs us → StoR K ad L m F H → VlRs K ad L F as vs → Hold K ad XR E (relR K ad L H) (g as m) L m F H Q →
    codeAny (model P w) A (.call (.ref f) ⟨us, []⟩) (CR (L2.CX P w) outer P w H s Q E) s
structure GO (P : Program) (w : World) (mg : Str → Option Value) (base : Heap) (n : Wn) (lv : Nat) : Prop where
  con : ∀ (g : Nat) (p : Str × D), W.con[g]? = some p → ∃ v u, mg p.1 = some u ∧ RelV v u ∧ ∀ F, Rp K ad F v p.2
  bs : ∀ x, n.bs.contains x = true → mg x = none
  fn : ∀ (k : Nat) (x : Str), n.fnm[k]? = some x → mg x = some (.ref (ad k)) ∧ PySem.W.keepIn K (.ref (ad k)) = true
  run : ∀ (k : Nat) (x : Str), n.fnm[k]? = some x → FnG K ad XR P w mg base lv (ad k) (C k)
end
/-- where code of the scope sc runs, names by slot in N, exceptions wished as Wi -/
structure XO (X : Cx) (N : List Str) (sc : Scope) (Wi : XK) (lv : Nat) : Prop where
  nm : X.N = N
  es : X.env.scope = sc
  nd : N.Nodup
  calm : X.calm = true
  room : Room lv X.A
  grd : X.A.guards = some []
  tk : Takes X (fun cls d _ H => Wi cls d H)
theorem _root_.L2.PE.imp {X : Cx} {e : Expr} {t t' : TE} (h : PE X e t) (i : ∀ σ H Q, t' σ H Q → t σ H Q) : PE X e t' := ⟨fun pins s σ H Q I hw => h.run pins s σ H Q I (i σ H Q hw)⟩
theorem _root_.L2.PT.imp {X : Cx} {e : Expr} {t t' : TT} (h : PT X e t) (i : ∀ σ H Q, t' σ H Q → t σ H Q) : PT X e t' := ⟨fun pins s σ H Q I hw => h.run pins s σ H Q I (i σ H Q hw)⟩
theorem _root_.L2.PW.imp {X : Cx} {e : Expr} {t t' : TT} (h : PW X e t) (i : ∀ σ H Q, t' σ H Q → t σ H Q) : PW X e t' := ⟨fun wh pins s σ H Q I hw => h.run wh pins s σ H Q I (i σ H Q hw)⟩
theorem _root_.L2.PA.imp {X : Cx} {es : List Expr} {t t' : TA} (h : PA X es t) (i : ∀ σ H Q, t' σ H Q → t σ H Q) : PA X es t' := ⟨fun pos pins s σ H Q I hw => h.run pos pins s σ H Q I (i σ H Q hw)⟩
section
variable {K : PySem.W.Frag} {ad : Nat → Addr} {XR : Xc → Value → Option Addr → Hp → Hp → Prop} {Wi : XK} {W : Wd} {C : Cal} {σ : L2.St} {H : Hp} {s : Slots} {L : List Addr} {m : Sto} {F : Hp}
theorem tE.mono {e : Ex} {Q Q' : VK} (h : tE K ad XR Wi W C e σ H Q) (q : ∀ x H, Q x H → Q' x H) : tE K ad XR Wi W C e σ H Q' := by
  obtain ⟨s, L, m, F, hs, hm, h⟩ := h
  exact ⟨s, L, m, F, hs, hm, h.mono q⟩
theorem tEs.mono {e : List Ex} {Q Q' : List V → Hp → Prop} (h : tEs K ad XR Wi W C e σ H Q) (q : ∀ x H, Q x H → Q' x H) : tEs K ad XR Wi W C e σ H Q' := by
  obtain ⟨s, L, m, F, hs, hm, h⟩ := h
  exact ⟨s, L, m, F, hs, hm, h.mono q⟩
theorem tT.mono {e : Tx} {Q Q' : Bool → Hp → Prop} (h : tT K ad XR Wi W C e σ H Q) (q : ∀ x H, Q x H → Q' x H) : tT K ad XR Wi W C e σ H Q' := by
  obtain ⟨s, L, m, F, hs, hm, h⟩ := h
  exact ⟨s, L, m, F, hs, hm, h.mono q⟩
/-- what is known behind a part -/
structure Bh (K : PySem.W.Frag) (ad : Nat → Addr) (XR : Xc → Value → Option Addr → Hp → Hp → Prop) (Wi : XK) {α β γ : Type} (rel : Hp → Hp → β → γ → Prop) (r : R α) (f : α → Sto → R β) (Q : γ → Hp → Prop) (L : List Addr) (m : Sto) (F H : Hp) (a : α) (m1 : Sto) (F1 H1 : Hp) : Prop where
  eq : r = .ok a m1
  ext : Ext L m F H m1 F1 H1
  sto : StoR K ad L m1 F1 H1
  hold : Hold K ad XR Wi rel (f a m1) L m1 F1 H1 Q
theorem Hold.bh {α β γ δ : Type} {rel : Hp → Hp → β → γ → Prop} (rel1 : Hp → Hp → α → δ → Prop) {r : R α} {f : α → Sto → R β} {Q : γ → Hp → Prop} (h : Hold K ad XR Wi rel (r.bind f) L m F H Q) :
    Hold K ad XR Wi rel1 r L m F H fun x H1 => ∃ a m1 F1, Bh K ad XR Wi rel r f Q L m F H a m1 F1 H1 ∧ rel1 F1 H1 a x :=
  (h.bind rel1).mono fun x H1 ⟨a, m1, F1, e1, ex, st, r, h1⟩ => ⟨a, m1, F1, ⟨e1, ex, st, h1⟩, r⟩
theorem tE_bind {e : Ex} {β γ : Type} {rel : Hp → Hp → β → γ → Prop} {f : Vl → Sto → R β} {Q : γ → Hp → Prop} (hs : SltR K ad L F s σ) (hm : StoR K ad L m F H) (h : Hold K ad XR Wi rel ((ev W C e s m).bind f) L m F H Q) :
    tE K ad XR Wi W C e σ H fun x H1 => ∃ a m1 F1, Bh K ad XR Wi rel (ev W C e s m) f Q L m F H a m1 F1 H1 ∧ VlR K ad L F1 a x := ⟨s, L, m, F, hs, hm, h.bh (relV K ad L)⟩
theorem tEs_bind {e : List Ex} {β γ : Type} {rel : Hp → Hp → β → γ → Prop} {f : List Vl → Sto → R β} {Q : γ → Hp → Prop} (hs : SltR K ad L F s σ) (hm : StoR K ad L m F H) (h : Hold K ad XR Wi rel ((evs W C e s m).bind f) L m F H Q) :
    tEs K ad XR Wi W C e σ H fun x H1 => ∃ a m1 F1, Bh K ad XR Wi rel (evs W C e s m) f Q L m F H a m1 F1 H1 ∧ VlRs K ad L F1 a x := ⟨s, L, m, F, hs, hm, h.bh (relVs K ad L)⟩
theorem tT_bind {e : Tx} {β γ : Type} {rel : Hp → Hp → β → γ → Prop} {f : Bool → Sto → R β} {Q : γ → Hp → Prop} (hs : SltR K ad L F s σ) (hm : StoR K ad L m F H) (h : Hold K ad XR Wi rel ((evT W C e s m).bind f) L m F H Q) :
    tT K ad XR Wi W C e σ H fun x H1 => ∃ a m1 F1, Bh K ad XR Wi rel (evT W C e s m) f Q L m F H a m1 F1 H1 ∧ a = x := ⟨s, L, m, F, hs, hm, h.bh relB⟩
/-- the end: a datum -/
theorem Hold.fin {d : D} {Q : VK} (h : Hold K ad XR Wi (relV K ad L) (.ok (.dat d) m) L m F H Q) (hm : StoR K ad L m F H) : Fin K ad F H d Q := fun F' H' z g r => h.now hm g r
theorem datsOf_ok : ∀ {vs : List Vl} {ds : List D} {xs : List V}, datsOf vs = some ds → VlRs K ad L F vs xs → RpA K ad F xs ds
  | [], _, _, e, h => by cases h; cases e; exact .nil
  | .dat d :: vs, _, _, e, h => by
    cases h with
    | cons a b =>
      have e' : (datsOf vs).map (d :: ·) = some _ := e
      obtain ⟨ds', e1, rfl⟩ := Option.map_eq_some_iff.mp e'
      exact .cons a (datsOf_ok e1 b)
  | .loc _ :: _, _, _, e, _ => by cases e
theorem looks_ok (hm : StoR K ad L m F H) : ∀ {vs : List Vl} {ds : List D} {xs : List V}, looks m vs = some ds → VlRs K ad L F vs xs → LkA K ad F H xs ds
  | [], _, _, e, h => by cases h; cases e; exact .nil
  | v :: vs, _, _, e, h => by
    cases h with
    | cons a b =>
      have e' : ((look m v).bind fun d => (looks m vs).map (d :: ·)) = some _ := e
      obtain ⟨d, e1, e2⟩ := Option.bind_eq_some_iff.mp e'
      obtain ⟨ds', e3, rfl⟩ := Option.map_eq_some_iff.mp e2
      exact .cons (VlR.lk hm a e1) (looks_ok hm e3 b)
variable {X : Cx} {N : List Str} {sc : Scope} {lv : Nat} {n : Wn} {pos : Pos} {e : Ex} {a b c : Ex} {t0 t1 : Tx} {a' b' c' : Expr}
theorem _root_.L2.Room.u64 {k : Nat} {A : Around} (r : Room k A) : A.units + 64 < cLine := r.units
/-! ### the forms, one by one -/
theorem pf_var {i : Nat} {x : Str} (hN : X.N[i]? = some x) (hv : Vis X.env.scope x) (ho : okNm x = true) : PE X (.Name x pos) (tE X.K ad XR Wi W C (.var i)) := by
  obtain ⟨h1, h2, _⟩ := okNm_of ho
  refine (pe_var hN hv h1 h2).imp fun σ H Q h => ?_
  obtain ⟨s, L, m, F, hs, hm, h⟩ := h
  simp only [ev] at h
  split at h
  · rename_i v e
    obtain ⟨x, e1, r⟩ := hs.at_ i v e
    exact ⟨x, e1, h.now hm (.refl hm.sub) r⟩
  · exact h.elim
theorem pf_int {i : Int} {k : Nat} : PE X (.Constant (.int i) k pos) (tE X.K ad XR Wi W C (.cst (.int i))) := by
  refine pe_int.imp fun σ H Q h => ?_
  obtain ⟨s, L, m, F, hs, hm, h⟩ := h
  exact (h.fin hm).int hm.sub
theorem pf_bl {i : Bool} {k : Nat} : PE X (.Constant (.bool i) k pos) (tE X.K ad XR Wi W C (.cst (.bl i))) := by
  refine pe_bl.imp fun σ H Q h => ?_
  obtain ⟨s, L, m, F, hs, hm, h⟩ := h
  exact (h.fin hm).bl hm.sub
theorem pf_non {k : Nat} : PE X (.Constant .none k pos) (tE X.K ad XR Wi W C (.cst .non)) := by
  refine pe_non.imp fun σ H Q h => ?_
  obtain ⟨s, L, m, F, hs, hm, h⟩ := h
  exact (h.fin hm).same hm.sub .non
theorem pf_str {x : Str} {k : Nat} : PE X (.Constant (.str x) k pos) (tE X.K ad XR Wi W C (.cst (.str x))) := by
  refine pe_str.imp fun σ H Q h => ?_
  obtain ⟨s, L, m, F, hs, hm, h⟩ := h
  exact (h.fin hm).str hm.sub
theorem pf_glo {g : Nat} {x : Str} (G : GO X.K ad XR W C X.prog X.w X.mg X.base n lv) (hg : (match W.con[g]? with | some p => decide (p.1 = x) | none => false) = true) (hx : Gl X x) (ho : okNm x = true) : PE X (.Name x pos) (tE X.K ad XR Wi W C (.glo g)) := by
  split at hg
  · rename_i p e
    have hp := of_decide_eq_true hg
    subst hp
    obtain ⟨v, u, h1, h2, h3⟩ := G.con g p e
    refine (pe_glob hx h1 h2 (okNm_of ho).1).imp fun σ H Q h => ?_
    obtain ⟨s, L, m, F, hs, hm, h⟩ := h
    simp only [ev, e] at h
    exact (h.fin hm).same hm.sub (h3 F)
  · cases hg
theorem pfs_nil : PA X [] (tEs X.K ad XR Wi W C []) := by
  refine pa_nil.imp fun σ H Q h => ?_
  obtain ⟨s, L, m, F, hs, hm, h⟩ := h
  exact h.now (a := []) hm (.refl hm.sub) .nil
theorem pfs_cons {es : List Ex} {e' : Expr} {es' : List Expr} (ha : PE X e' (tE X.K ad XR Wi W C e)) (hr : PA X es' (tEs X.K ad XR Wi W C es)) (hst : starB e' = false) : PA X (e' :: es') (tEs X.K ad XR Wi W C (e :: es)) := by
  refine (pa_cons ha hr (star_each hst _ _)).imp fun σ H Q h => ?_
  obtain ⟨s, L, m, F, hs, hm, h⟩ := h
  simp only [evs] at h
  refine (tE_bind hs hm h).mono fun x H1 ⟨v, m1, F1, b1, r1⟩ => ?_
  refine (tEs_bind (hs.mono b1.ext.sub) b1.sto b1.hold).mono fun xs H2 ⟨vs, m2, F2, b2, r2⟩ => ?_
  exact b2.hold.now b2.sto (.refl b2.sto.sub) (.cons (r1.mono b2.ext.sub) r2)
theorem pf_tup {es : List Ex} {es' : List Expr} {k : Nat} (h : PA X es' (tEs X.K ad XR Wi W C es)) : PE X (.Tuple es' k pos) (tE X.K ad XR Wi W C (.tup es)) := by
  refine (pe_tup h).imp fun σ H Q h => ?_
  obtain ⟨s, L, m, F, hs, hm, h⟩ := h
  simp only [ev] at h
  refine (tEs_bind hs hm h).mono fun xs H1 ⟨vs, m1, F1, b1, r1⟩ => ?_
  have hh := b1.hold
  split at hh
  · rename_i ds e
    split at hh
    · rename_i hz
      have r := datsOf_ok e r1
      exact ⟨by rw [r.len]; exact le_of_sz hz, (hh.fin b1.sto).tup b1.sto.sub r⟩
    · exact hh.elim
  · exact hh.elim
theorem pf_lst {es : List Ex} {es' : List Expr} (h : PA X es' (tEs X.K ad XR Wi W C es)) : PE X (.List es' pos) (tE X.K ad XR Wi W C (.lst es)) := by
  refine (pe_lst h).imp fun σ H Q h => ?_
  obtain ⟨s, L, m, F, hs, hm, h⟩ := h
  simp only [ev] at h
  refine (tEs_bind hs hm h).mono fun xs H1 ⟨vs, m1, F1, b1, r1⟩ => ?_
  have hh := b1.hold
  split at hh
  · rename_i ds e
    split at hh
    · rename_i hz
      have r := datsOf_ok e r1
      exact ⟨by rw [r.len]; exact le_of_sz hz, (hh.fin b1.sto).lst b1.sto.sub r⟩
    · exact hh.elim
  · exact hh.elim
theorem tEd_bind {fl : List Bool} {e : List Ex} {β γ : Type} {rel : Hp → Hp → β → γ → Prop} {f : List D → Sto → R β} {Q : γ → Hp → Prop} (hs : SltR K ad L F s σ) (hm : StoR K ad L m F H) (h : Hold K ad XR Wi rel ((evd W C fl e s m).bind f) L m F H Q) :
    tEd K ad XR Wi W C fl e σ H fun x H1 => ∃ a m1 F1, Bh K ad XR Wi rel (evd W C fl e s m) f Q L m F H a m1 F1 H1 ∧ RpA K ad F1 x a := ⟨s, L, m, F, hs, hm, h.bh (relD K ad)⟩
theorem tEd.mono {fl : List Bool} {e : List Ex} {Q Q' : List V → Hp → Prop} (h : tEd K ad XR Wi W C fl e σ H Q) (q : ∀ x H, Q x H → Q' x H) : tEd K ad XR Wi W C fl e σ H Q' := by
  obtain ⟨s, L, m, F, hs, hm, h⟩ := h
  exact ⟨s, L, m, F, hs, hm, h.mono q⟩
theorem pfd_nil : PA X [] (tEd X.K ad XR Wi W C [] []) := by
  refine pa_nil.imp fun σ H Q h => ?_
  obtain ⟨s, L, m, F, hs, hm, h⟩ := h
  exact h.now (a := []) hm (.refl hm.sub) .nil
theorem pfd_cons {fl : List Bool} {es : List Ex} {e' : Expr} {es' : List Expr} (ha : PE X e' (tE X.K ad XR Wi W C e)) (hr : PA X es' (tEd X.K ad XR Wi W C fl es)) (hst : starB e' = false) : PA X (e' :: es') (tEd X.K ad XR Wi W C (false :: fl) (e :: es)) := by
  refine (pa_cons ha hr (star_each hst _ _)).imp fun σ H Q h => ?_
  obtain ⟨s, L, m, F, hs, hm, h⟩ := h
  simp only [evd] at h
  refine (tE_bind hs hm h).mono fun x H1 ⟨v, m1, F1, b1, r1⟩ => ?_
  have hh := b1.hold
  cases v with
  | loc _ => exact hh.elim
  | dat d =>
    refine (tEd_bind (hs.mono b1.ext.sub) b1.sto hh).mono fun xs H2 ⟨ds, m2, F2, b2, r2⟩ => ?_
    exact b2.hold.now b2.sto (.refl b2.sto.sub) (.cons (Rp.mono b2.ext.sub r1) r2)
theorem pfd_star {fl : List Bool} {es : List Ex} {e' : Expr} {es' : List Expr} {p : Pos} (ha : PE X e' (tE X.K ad XR Wi W C e)) (hr : PA X es' (tEd X.K ad XR Wi W C fl es)) : PA X (.Starred e' p :: es') (tEd X.K ad XR Wi W C (true :: fl) (e :: es)) := by
  refine (StX.pa_star ha hr).imp fun σ H Q h => ?_
  obtain ⟨s, L, m, F, hs, hm, h⟩ := h
  simp only [evd] at h
  refine (tE_bind hs hm h).mono fun x H1 ⟨v, m1, F1, b1, r1⟩ => ?_
  have hh := b1.hold
  split at hh
  case h_2 => exact hh.elim
  case h_1 xs hx =>
  obtain ⟨d, hd, hi⟩ := Option.bind_eq_some_iff.mp hx
  have l := r1.lk b1.sto hd
  have rest : ∀ {vs : List V}, RpA X.K ad F1 vs xs → tEd X.K ad XR Wi W C fl es σ H1 fun ys H2 => Q (vs ++ ys) H2 := fun {vs} rv =>
    (tEd_bind (hs.mono b1.ext.sub) b1.sto hh).mono fun ys H2 ⟨ds, m2, F2, b2, r2⟩ => b2.hold.now b2.sto (.refl b2.sto.sub) (RpA.app (RpA.mono b2.ext.sub rv) r2)
  cases l with
  | tup a b => cases hi; exact ⟨_, _, rfl, .inl (SqT.mono b1.sto.sub a), rest b⟩
  | lst a b => cases hi; exact ⟨_, _, rfl, .inr (SqL.of a), rest b⟩
  | _ => cases hi
theorem pf_lsts {fl : List Bool} {es : List Ex} {es' : List Expr} (h : PA X es' (tEd X.K ad XR Wi W C fl es)) : PE X (.List es' pos) (tE X.K ad XR Wi W C (.lsts fl es)) := by
  refine (pe_lst h).imp fun σ H Q h => ?_
  obtain ⟨s, L, m, F, hs, hm, h⟩ := h
  simp only [ev] at h
  refine (tEd_bind hs hm h).mono fun xs H1 ⟨ds, m1, F1, b1, r⟩ => ?_
  have hh := b1.hold
  split at hh
  · rename_i hz
    exact ⟨by rw [r.len]; exact le_of_sz hz, (hh.fin b1.sto).lst b1.sto.sub r⟩
  · exact hh.elim
theorem pf_bin {op : Operator} (ha : PE X a' (tE X.K ad XR Wi W C a)) (hb : PE X b' (tE X.K ad XR Wi W C b)) : PE X (.BinOp a' op b' pos) (tE X.K ad XR Wi W C (.bin op a b)) := by
  refine (pe_op (op_bin (ad := ad) op) ha hb).imp fun σ H Q h => ?_
  obtain ⟨s, L, m, F, hs, hm, h⟩ := h
  simp only [ev] at h
  refine (tE_bind hs hm h).mono fun x H1 ⟨v, m1, F1, b1, r1⟩ => ?_
  refine (tE_bind (hs.mono b1.ext.sub) b1.sto b1.hold).mono fun y H2 ⟨u, m2, F2, b2, r2⟩ => ?_
  have hh := b2.hold
  split at hh
  · rename_i d e hd he
    rw [ofO_ok] at hh
    split at hh
    · rename_i r hr
      exact ⟨F2, d, e, r, b2.sto.sub, (r1.mono b2.ext.sub).lk b2.sto hd, r2.lk b2.sto he, hr, hh.fin b2.sto⟩
    · exact hh.elim
  · exact hh.elim
theorem pf_neg (ha : PE X a' (tE X.K ad XR Wi W C a)) : PE X (.UnaryOp .USub a' pos) (tE X.K ad XR Wi W C (.neg a)) := by
  refine (pe_un un_neg ha).imp fun σ H Q h => ?_
  obtain ⟨s, L, m, F, hs, hm, h⟩ := h
  simp only [ev] at h
  refine (tE_bind hs hm h).mono fun x H1 ⟨v, m1, F1, b1, r1⟩ => ?_
  have hh := b1.hold
  split at hh
  · cases r1
    exact ⟨_, rfl, (hh.fin b1.sto).int b1.sto.sub⟩
  · exact hh.elim
theorem pf_nt (ha : PE X a' (tE X.K ad XR Wi W C a)) : PE X (.UnaryOp .Not a' pos) (tE X.K ad XR Wi W C (.nt a)) := by
  refine (pe_not ha).imp fun σ H Q h => ?_
  obtain ⟨s, L, m, F, hs, hm, h⟩ := h
  simp only [ev] at h
  refine (tE_bind hs hm h).mono fun x H1 ⟨v, m1, F1, b1, r1⟩ => ?_
  have hh := b1.hold
  split at hh
  · cases r1
    exact ⟨_, rfl, (hh.fin b1.sto).bl b1.sto.sub⟩
  · exact hh.elim
theorem cmp_read {op : CmpOp} {Q : VK} (h : tE K ad XR Wi W C (.cmp op a b) σ H Q) : tOp (rCmp K ad op) (tE K ad XR Wi W C a) (tE K ad XR Wi W C b) σ H Q := by
  obtain ⟨s, L, m, F, hs, hm, h⟩ := h
  simp only [ev] at h
  refine (tE_bind hs hm h).mono fun x H1 ⟨v, m1, F1, b1, r1⟩ => ?_
  refine (tE_bind (hs.mono b1.ext.sub) b1.sto b1.hold).mono fun y H2 ⟨u, m2, F2, b2, r2⟩ => ?_
  have hh := b2.hold
  split at hh
  · rename_i d e hd he
    rw [ofO_ok] at hh
    split at hh
    · rename_i r hr
      exact ⟨F2, d, e, r, b2.sto.sub, (r1.mono b2.ext.sub).lk b2.sto hd, r2.lk b2.sto he, hr, (hh.fin b2.sto).bl b2.sto.sub⟩
    · exact hh.elim
  · exact hh.elim
theorem pf_cmp {op : CmpOp} (S : XO X N sc Wi lv) (hi : inB op = false) (ha : PE X a' (tE X.K ad XR Wi W C a)) (hb : PE X b' (tE X.K ad XR Wi W C b)) : PE X (.Compare a' [op] [b'] pos) (tE X.K ad XR Wi W C (.cmp op a b)) :=
  (pe_cmpR (op_cmp (ad := ad) op S.room.u64) ha hb (nomarkB hi b')).imp fun _ _ _ h => cmp_read h
theorem chain_read {op op' : CmpOp} {Q : VK} (h : tE K ad XR Wi W C (.chain op op' a b c) σ H Q) : tChain (rCmp K ad op) (rCmp K ad op') (tE K ad XR Wi W C a) (tE K ad XR Wi W C b) (tE K ad XR Wi W C c) σ H Q := by
  obtain ⟨s, L, m, F, hs, hm, h⟩ := h
  simp only [ev] at h
  refine (tE_bind hs hm h).mono fun x H1 ⟨v, m1, F1, b1, r1⟩ => ?_
  refine (tE_bind (hs.mono b1.ext.sub) b1.sto b1.hold).mono fun y H2 ⟨u, m2, F2, b2, r2⟩ => ?_
  have hh := b2.hold
  cases v with
  | loc k => exact hh.elim
  | dat d =>
  cases u with
  | loc k => exact hh.elim
  | dat e =>
    dsimp only at hh
    rw [ofO_ok] at hh
    split at hh
    · rename_i r hr
      refine ⟨F2, d, e, r, b2.sto.sub, (r1.mono b2.ext.sub).lk b2.sto rfl, r2.lk b2.sto rfl, hr, r, rfl, ?_⟩
      cases r with
      | false =>
        rw [if_neg Bool.false_ne_true] at hh ⊢
        exact (hh.fin b2.sto).bl b2.sto.sub
      | true =>
        rw [if_pos rfl] at hh ⊢
        refine (tE_bind ((hs.mono b1.ext.sub).mono b2.ext.sub) b2.sto hh).mono fun z H3 ⟨t, m3, F3, b3, r3⟩ => ?_
        have hk := b3.hold
        cases t with
        | loc k => exact hk.elim
        | dat g =>
          dsimp only at hk
          rw [ofO_ok] at hk
          split at hk
          · rename_i r' hr'
            exact ⟨F3, e, g, r', b3.sto.sub, (r2.mono b3.ext.sub).lk b3.sto rfl, r3.lk b3.sto rfl, hr', (hk.fin b3.sto).bl b3.sto.sub⟩
          · exact hk.elim
    · exact hh.elim
theorem marks2 {op op' : CmpOp} (h : inB op' = false) : lastMarks [op, op'] [b', c'] = false := by
  show behindInMarks op' c' = false
  exact nomarkB h c'
theorem pf_chain {op op' : CmpOp} (S : XO X N sc Wi lv) (hi' : inB op' = false) (ha : PE X a' (tE X.K ad XR Wi W C a)) (hb : PE X b' (tE X.K ad XR Wi W C b)) (hc : PE X c' (tE X.K ad XR Wi W C c)) : PE X (.Compare a' [op, op'] [b', c'] pos) (tE X.K ad XR Wi W C (.chain op op' a b c)) :=
  (pe_chain (op_cmp (ad := ad) op S.room.u64) (op_cmp (ad := ad) op' S.room.u64) ha hb hc (marks2 hi')).imp fun _ _ _ h => chain_read h
theorem pf_one {op : BoolOp} (ha : PE X a' (tE X.K ad XR Wi W C a)) : PE X (.BoolOp op [a'] pos) (tE X.K ad XR Wi W C a) := pe_one ha
theorem pf_and {es : List Ex} {es' : List Expr} (ha : PE X a' (tE X.K ad XR Wi W C a)) (hb : PE X (.BoolOp .And (b' :: es') pos) (tE X.K ad XR Wi W C (.andl (b :: es)))) : PE X (.BoolOp .And (a' :: b' :: es') pos) (tE X.K ad XR Wi W C (.andl (a :: b :: es))) := by
  refine (pe_and ha hb).imp fun σ H Q h => ?_
  obtain ⟨s, L, m, F, hs, hm, h⟩ := h
  simp only [ev, evAnd] at h
  refine (tE_bind hs hm h).mono fun x H1 ⟨v, m1, F1, b1, r1⟩ => ?_
  have hh := b1.hold
  split at hh
  · cases r1
    exact ⟨true, rfl, iteT ⟨s, L, m1, F1, hs.mono b1.ext.sub, b1.sto, hh⟩⟩
  · cases r1
    exact ⟨false, rfl, iteF ((hh.fin b1.sto).bl b1.sto.sub)⟩
  · exact hh.elim
theorem pf_or {es : List Ex} {es' : List Expr} (ha : PE X a' (tE X.K ad XR Wi W C a)) (hb : PE X (.BoolOp .Or (b' :: es') pos) (tE X.K ad XR Wi W C (.orl (b :: es)))) : PE X (.BoolOp .Or (a' :: b' :: es') pos) (tE X.K ad XR Wi W C (.orl (a :: b :: es))) := by
  refine (pe_or ha hb).imp fun σ H Q h => ?_
  obtain ⟨s, L, m, F, hs, hm, h⟩ := h
  simp only [ev, evOr] at h
  refine (tE_bind hs hm h).mono fun x H1 ⟨v, m1, F1, b1, r1⟩ => ?_
  have hh := b1.hold
  split at hh
  · cases r1
    exact ⟨false, rfl, iteF ⟨s, L, m1, F1, hs.mono b1.ext.sub, b1.sto, hh⟩⟩
  · cases r1
    exact ⟨true, rfl, iteT ((hh.fin b1.sto).bl b1.sto.sub)⟩
  · exact hh.elim
theorem pf_ite (hc : PT X c' (tT X.K ad XR Wi W C t0)) (ha : PE X a' (tE X.K ad XR Wi W C a)) (hb : PE X b' (tE X.K ad XR Wi W C b)) : PE X (.IfExp c' a' b' pos) (tE X.K ad XR Wi W C (.ite t0 a b)) := by
  refine (pe_ifExp hc ha hb).imp fun σ H Q h => ?_
  obtain ⟨s, L, m, F, hs, hm, h⟩ := h
  simp only [ev] at h
  refine (tT_bind hs hm h).mono fun x H1 ⟨v, m1, F1, b1, r1⟩ => ?_
  have hh := b1.hold
  subst r1
  cases v with
  | true => exact iteT ⟨s, L, m1, F1, hs.mono b1.ext.sub, b1.sto, hh⟩
  | false => exact iteF ⟨s, L, m1, F1, hs.mono b1.ext.sub, b1.sto, hh⟩
theorem pf_sub (ha : PE X a' (tE X.K ad XR Wi W C a)) (hb : PE X b' (tE X.K ad XR Wi W C b)) (hsl : sliceB b' = false) : PE X (.Subscript a' b' pos) (tE X.K ad XR Wi W C (.sub a b)) := by
  refine (pe_ix (ix_d (ad := ad)) ha hb (slice_ix hsl)).imp fun σ H Q h => ?_
  obtain ⟨s, L, m, F, hs, hm, h⟩ := h
  simp only [ev] at h
  refine (tE_bind hs hm h).mono fun x H1 ⟨v, m1, F1, b1, r1⟩ => ?_
  refine (tE_bind (hs.mono b1.ext.sub) b1.sto b1.hold).mono fun y H2 ⟨u, m2, F2, b2, r2⟩ => ?_
  have hh := b2.hold
  split at hh
  · rename_i d e hd
    rw [ofO_ok] at hh
    split at hh
    · rename_i r hr
      exact ⟨F2, d, e, r, b2.sto.sub, (r1.mono b2.ext.sub).lk b2.sto hd, r2.lk b2.sto rfl, hr, hh.fin b2.sto⟩
    · exact hh.elim
  · exact hh.elim
theorem pf_rev {k : Nat} {p1 p2 p3 : Pos} (ha : PE X a' (tE X.K ad XR Wi W C a)) : PE X (.Subscript a' (.Slice none none (some (.UnaryOp .USub (.Constant (.int 1) k p1) p2)) p3) pos) (tE X.K ad XR Wi W C (.rev a)) := by
  refine (pe_revL ha).imp fun σ H Q h => ?_
  obtain ⟨s, L, m, F, hs, hm, h⟩ := h
  simp only [ev] at h
  refine (tE_bind hs hm h).mono fun x H1 ⟨v, m1, F1, b1, r1⟩ => ?_
  have hh := b1.hold
  split at hh
  · rename_i d hd
    rw [ofO_ok] at hh
    split at hh
    · rename_i r hr
      unfold revD at hr
      split at hr
      · cases hr
        have l := r1.lk b1.sto hd
        cases l with
        | lst a b => exact ⟨_, _, rfl, SqL.of a, (hh.fin b1.sto).lst b1.sto.sub b.rev⟩
      · cases hr
    · exact hh.elim
  · exact hh.elim
theorem pf_call {k : Nat} {x : Str} {es : List Ex} {es' : List Expr} {p : Pos} (G : GO X.K ad XR W C X.prog X.w X.mg X.base n lv) (S : XO X N sc Wi lv) (hk : n.fnm[k]? = some x) (hg : Gl X x) (ho : okNm x = true)
    (ha : PA X es' (tEs X.K ad XR Wi W C es)) (hst : es'.all (fun e => !starB e) = true) (hes : es' = [] → es = []) : PE X (.Call (.Name x p) es' [] pos) (tE X.K ad XR Wi W C (.call k es)) := by
  refine ⟨fun pins s₀ σ H Q I h => ?_⟩
  obtain ⟨h1, h2⟩ := G.fn k x hk
  refine wpAny_Call_Name_kw (ld_glob I hg h1 ?_ (okNm_of ho).1)
  have run : ∀ (us : List Value) (s1 : Shared) (vs : List V) (H1 : Hp), L2.Inv X pins σ H1 s1 → Vals vs us → (∃ (a : List Vl) (m1 : Sto) (F1 : Hp) (L : List Addr), StoR X.K ad L m1 F1 H1 ∧ VlRs X.K ad L F1 a vs ∧ Hold X.K ad XR Wi (relR X.K ad L H1) (C k a m1) L m1 F1 H1 Q) →
      wpAny (model X.prog X.w) X.A (call (.ref (ad k)) us) (EP X pins σ Q) X.xe s1 := by
    intro us s1 vs H1 I1 rv ⟨a, m1, F1, L, st, r1, hh⟩
    refine wpAny_call (codeAny_mono (G.run k x hk X.A X.stack s1 H1 us vs Q Wi L m1 F1 a S.room S.grd I1.env0 rv st r1 hh) fun r s' hq => ?_)
    cases r with
    | error e => exact passes_call S.tk (E := Wi) (fun _ _ _ _ q => q) pins σ H1 s1 e s' I1 hq
    | ok fl =>
      cases fl with
      | ret u => exact I1.after hq
      | next => exact False.elim hq
      | brk => exact False.elim hq
      | cont => exact False.elim hq
  obtain ⟨s, L, m, F, hs, hm, h⟩ := h
  simp only [ev] at h
  have cv : ∀ (vs : List Vl) (m1 : Sto) (F1 H1 : Hp), StoR X.K ad L m1 F1 H1 → Hold X.K ad XR Wi (relV X.K ad L) ((C k vs m1).bind fun r m => match r with | .vl v => .ok v m | .new xs => .ok (.dat (.lst xs)) m) L m1 F1 H1 Q → Hold X.K ad XR Wi (relR X.K ad L H1) (C k vs m1) L m1 F1 H1 Q := by
    intro vs m1 F1 H1 st hh
    cases hC : C k vs m1 with
    | ok r m2 =>
      rw [hC] at hh
      intro F' H' x ex st' rel
      cases r with
      | vl v => exact hh F' H' x ex st' rel
      | new xs =>
        obtain ⟨p, vs, rfl, e1, e2, e3, e4⟩ := rel
        exact hh (upd F' p (.lst vs)) H' _ (ex.frz e2 e1 e3) (st'.frz (ex.notOwn st e2) e1 e3) (.lst upd_same (e4.mono (sub_upd e1)))
    | exc x m2 => rw [hC] at hh; exact hh
    | bad => rw [hC] at hh; exact hh
  cases es' with
  | nil =>
    have e0 := hes rfl
    subst e0
    have hh : Hold X.K ad XR Wi (relV X.K ad L) ((C k [] m).bind fun r m => match r with | .vl v => .ok v m | .new xs => .ok (.dat (.lst xs)) m) L m F H Q := h
    exact PySem.W.callWith_K0 I.kIn h2 (run [] s₀ [] H I .nil ⟨[], m, F, L, hm, .nil, cv [] m F H hm hh⟩)
  | cons e1 es1 =>
    rw [List.all_cons, Bool.and_eq_true, Bool.not_eq_true'] at hst
    refine PySem.W.callWith_K (h₀ := X.base) I.ok.mod.kin h2 (thn (ha.run pos pins s₀ σ H (fun vs H1 => ∃ (a : List Vl) (m1 : Sto) (F1 : Hp) (L : List Addr), StoR X.K ad L m1 F1 H1 ∧ VlRs X.K ad L F1 a vs ∧ Hold X.K ad XR Wi (relR X.K ad L H1) (C k a m1) L m1 F1 H1 Q) I ?_)
      fun us s1 ⟨vs, H1, I1, rv, q⟩ => ⟨I1.kIn, run us s1 vs H1 I1 rv q⟩) (star_each hst.1 _ _) (star_any hst.2 _ _)
    refine (tEs_bind hs hm h).mono fun xs H1 ⟨vs, m1, F1, b1, r1⟩ => ?_
    exact ⟨vs, m1, F1, L, b1.sto, r1, cv vs m1 F1 H1 b1.sto b1.hold⟩
/-! ### tests -/
theorem pt_plain (ha : PE X a' (tE X.K ad XR Wi W C a)) (hp : plainT a' = true) : PT X a' (tT X.K ad XR Wi W C (.val a)) := by
  refine ⟨fun pins s₀ σ H Q I h => ?_⟩
  obtain ⟨s, L, m, F, hs, hm, h⟩ := h
  simp only [evT] at h
  refine isTrue_plain (thn (ha.run pins s₀ σ H _ I (tE_bind hs hm h)) fun v s1 ⟨x, H1, I1, r1, u, m1, F1, b1, r2⟩ => ?_) (plainT_of hp X.env _)
  have hh := b1.hold
  split at hh
  · rename_i b hb
    obtain ⟨d, h1, h2⟩ := Option.bind_eq_some_iff.mp hb
    exact tru_d (ad := ad) pins s1 σ H1 x v Q I1 r1 ⟨F1, d, b, b1.sto.sub, r2.lk b1.sto h1, h2, hh.now b1.sto (.refl b1.sto.sub) rfl⟩
  · exact hh.elim
theorem truOne {e : Ex} {Q : Bool → Hp → Prop} (h : tT K ad XR Wi W C (.val e) σ H Q) : tE K ad XR Wi W C e σ H fun x H1 => ∃ (u : Vl) (m1 : Sto) (F1 : Hp) (L : List Addr), StoR K ad L m1 F1 H1 ∧ VlR K ad L F1 u x ∧ Hold K ad XR Wi relB (match (look m1 u).bind truD with | some b => .ok b m1 | none => .bad) L m1 F1 H1 Q := by
  obtain ⟨s, L, m, F, hs, hm, h⟩ := h
  simp only [evT] at h
  exact (tE_bind hs hm h).mono fun x H1 ⟨u, m1, F1, b1, r2⟩ => ⟨u, m1, F1, L, b1.sto, r2, b1.hold⟩
theorem bool_end {b : Bool} {u : Vl} {m1 : Sto} {F1 H1 : Hp} {Q : Bool → Hp → Prop} (st : StoR K ad L m1 F1 H1) (r : VlR K ad L F1 u (.bl b)) (h : Hold K ad XR Wi relB (match (look m1 u).bind truD with | some b => .ok b m1 | none => .bad) L m1 F1 H1 Q) : Q b H1 := by
  cases u with
  | dat d =>
    cases r
    exact h.now st (.refl st.sub) rfl
  | loc n =>
    obtain ⟨a, _, e⟩ := r
    cases e
theorem pt_cmpD {op : CmpOp} (S : XO X N sc Wi lv) (hi : inB op = false) (ha : PE X a' (tE X.K ad XR Wi W C a)) (hb : PE X b' (tE X.K ad XR Wi W C b)) : PT X (.Compare a' [op] [b'] pos) (tT X.K ad XR Wi W C (.cmp op a b)) := by
  refine (pt_cmpR (op_cmp (ad := ad) op S.room.u64) ha hb (nomarkB hi b')).imp fun σ H Q h => ?_
  obtain ⟨s, L, m, F, hs, hm, h⟩ := h
  simp only [evT] at h
  refine (tE_bind hs hm h).mono fun x H1 ⟨v, m1, F1, b1, r1⟩ => ?_
  refine (tE_bind (hs.mono b1.ext.sub) b1.sto b1.hold).mono fun y H2 ⟨u, m2, F2, b2, r2⟩ => ?_
  have hh := b2.hold
  split at hh
  · rename_i d e hd he
    cases hr : cmpD op d e with
    | none => rw [hr] at hh; exact hh.elim
    | some r =>
      rw [hr] at hh
      exact ⟨F2, d, e, r, b2.sto.sub, (r1.mono b2.ext.sub).lk b2.sto hd, r2.lk b2.sto he, hr, r, rfl, Hold.now (a := r) hh b2.sto (.refl b2.sto.sub) rfl⟩
  · exact hh.elim
theorem bind_assoc {α β γ : Type} (r : R α) (f : α → Sto → R β) (g : β → Sto → R γ) : (r.bind f).bind g = r.bind fun a m => (f a m).bind g := by
  cases r <;> rfl
theorem pt_chainD {op op' : CmpOp} (S : XO X N sc Wi lv) (hi' : inB op' = false) (ha : PE X a' (tE X.K ad XR Wi W C a)) (hb : PE X b' (tE X.K ad XR Wi W C b)) (hc : PE X c' (tE X.K ad XR Wi W C c)) :
    PT X (.Compare a' [op, op'] [b', c'] pos) (tT X.K ad XR Wi W C (.chain op op' a b c)) := by
  refine (pt_chain (op_cmp (ad := ad) op S.room.u64) (op_cmp (ad := ad) op' S.room.u64) ha hb hc (marks2 hi')).imp fun σ H Q h => ?_
  obtain ⟨s, L, m, F, hs, hm, h⟩ := h
  simp only [evT] at h
  refine (tE_bind hs hm h).mono fun x H1 ⟨v, m1, F1, b1, r1⟩ => ?_
  refine (tE_bind (hs.mono b1.ext.sub) b1.sto b1.hold).mono fun y H2 ⟨u, m2, F2, b2, r2⟩ => ?_
  have hh := b2.hold
  cases v with
  | loc k => exact hh.elim
  | dat d =>
  cases u with
  | loc k => exact hh.elim
  | dat e =>
    dsimp only at hh
    rw [ofO_ok] at hh
    split at hh
    · rename_i r hr
      refine ⟨F2, d, e, r, b2.sto.sub, (r1.mono b2.ext.sub).lk b2.sto rfl, r2.lk b2.sto rfl, hr, r, rfl, ?_⟩
      cases r with
      | false =>
        rw [if_neg Bool.false_ne_true]
        rw [if_neg Bool.false_ne_true] at hh
        exact ⟨false, rfl, hh.now (a := false) b2.sto (.refl b2.sto.sub) rfl⟩
      | true =>
        rw [if_pos rfl] at hh ⊢
        refine (tE_bind ((hs.mono b1.ext.sub).mono b2.ext.sub) b2.sto hh).mono fun z H3 ⟨t, m3, F3, b3, r3⟩ => ?_
        have hk := b3.hold
        cases t with
        | loc k => exact hk.elim
        | dat g =>
          dsimp only at hk
          cases hr' : cmpD op' e g with
          | none => rw [hr'] at hk; exact hk.elim
          | some r' =>
            rw [hr'] at hk
            exact ⟨F3, e, g, r', b3.sto.sub, (r2.mono b3.ext.sub).lk b3.sto rfl, r3.lk b3.sto rfl, hr', r', rfl, Hold.now (a := r') hk b3.sto (.refl b3.sto.sub) rfl⟩
    · exact hh.elim
theorem pt_notD (ha : PT X a' (tT X.K ad XR Wi W C t0)) : PT X (.UnaryOp .Not a' pos) (tT X.K ad XR Wi W C (.nt t0)) := by
  refine (pt_not ha).imp fun σ H Q h => ?_
  obtain ⟨s, L, m, F, hs, hm, h⟩ := h
  simp only [evT] at h
  refine (tT_bind hs hm h).mono fun x H1 ⟨v, m1, F1, b1, r1⟩ => ?_
  subst r1
  exact b1.hold.now b1.sto (.refl b1.sto.sub) rfl
theorem pw_oneAnd (ha : PT X a' (tT X.K ad XR Wi W C t0)) : PW X (.BoolOp .And [a'] pos) (tT X.K ad XR Wi W C (.andl [t0])) := (pw_and1 ha).imp fun σ H Q ⟨s, L, m, F, hs, hm, h⟩ => ⟨s, L, m, F, hs, hm, h⟩
theorem pw_oneOr (ha : PT X a' (tT X.K ad XR Wi W C t0)) : PW X (.BoolOp .Or [a'] pos) (tT X.K ad XR Wi W C (.orl [t0])) := (pw_or1 ha).imp fun σ H Q ⟨s, L, m, F, hs, hm, h⟩ => ⟨s, L, m, F, hs, hm, h⟩
theorem pw_moreAnd {ts : List Tx} {es' : List Expr} (ha : PT X a' (tT X.K ad XR Wi W C t0)) (hb : PW X (.BoolOp .And (b' :: es') pos) (tT X.K ad XR Wi W C (.andl (t1 :: ts)))) : PW X (.BoolOp .And (a' :: b' :: es') pos) (tT X.K ad XR Wi W C (.andl (t0 :: t1 :: ts))) := by
  refine (pw_and ha hb).imp fun σ H Q h => ?_
  obtain ⟨s, L, m, F, hs, hm, h⟩ := h
  simp only [evT, evTAnd] at h
  refine (tT_bind hs hm h).mono fun x H1 ⟨v, m1, F1, b1, r1⟩ => ?_
  subst r1
  have hh := b1.hold
  cases v with
  | true => exact iteT ⟨s, L, m1, F1, hs.mono b1.ext.sub, b1.sto, hh⟩
  | false => exact iteF (hh.now (a := false) b1.sto (.refl b1.sto.sub) rfl)
theorem pw_moreOr {ts : List Tx} {es' : List Expr} (ha : PT X a' (tT X.K ad XR Wi W C t0)) (hb : PW X (.BoolOp .Or (b' :: es') pos) (tT X.K ad XR Wi W C (.orl (t1 :: ts)))) : PW X (.BoolOp .Or (a' :: b' :: es') pos) (tT X.K ad XR Wi W C (.orl (t0 :: t1 :: ts))) := by
  refine (pw_or ha hb).imp fun σ H Q h => ?_
  obtain ⟨s, L, m, F, hs, hm, h⟩ := h
  simp only [evT, evTOr] at h
  refine (tT_bind hs hm h).mono fun x H1 ⟨v, m1, F1, b1, r1⟩ => ?_
  subst r1
  have hh := b1.hold
  cases v with
  | true => exact iteT (hh.now (a := true) b1.sto (.refl b1.sto.sub) rfl)
  | false => exact iteF ⟨s, L, m1, F1, hs.mono b1.ext.sub, b1.sto, hh⟩
end
end EV

set_option Elab.async false
set_option linter.all false
set_option maxRecDepth 100000
set_option maxHeartbeats 4000000
/-! EV, part G: slices, built-ins, targets, what is walked, comprehensions. -/
namespace EV
open PySem PySem.Spec PyProof.Rows L2
section
variable {K : PySem.W.Frag} {ad : Nat → Addr} {XR : Xc → Value → Option Addr → Hp → Hp → Prop} {Wi : XK} {W : Wd} {C : Cal} {σ : L2.St} {H : Hp} {s : Slots} {L : List Addr} {m : Sto} {F : Hp}
variable {X : Cx} {N : List Str} {sc : Scope} {lv : Nat} {n : Wn} {pos p2 : Pos} {e a b c : Ex} {t0 t1 : Tx} {a' b' c' : Expr}
/-! ### slices -/
theorem slc_end {v : Vl} {x : V} {lo hi : Option Int} {Q : VK} (hm : StoR K ad L m F H) (r : VlR K ad L F v x)
    (h : Hold K ad XR Wi (relV K ad L) (match look m v with | some d => (R.ofO (slcD d lo hi) m).bind fun r m => R.ok (Vl.dat r) m | none => R.bad) L m F H Q) : rSlc K ad x lo hi H Q := by
  split at h
  · rename_i d hd
    rw [ofO_ok] at h
    split at h
    · rename_i r' hr
      exact ⟨F, d, r', hm.sub, r.lk hm hd, hr, h.fin hm⟩
    · exact h.elim
  · exact h.elim
theorem pf_slc2 {lo hi : Ex} {lo' hi' : Expr} (ha : PE X a' (tE X.K ad XR Wi W C a)) (hl : PE X lo' (tE X.K ad XR Wi W C lo)) (hh : PE X hi' (tE X.K ad XR Wi W C hi)) :
    PE X (.Subscript a' (.Slice (some lo') (some hi') none p2) pos) (tE X.K ad XR Wi W C (.slc .both a [lo, hi])) := by
  refine (pe_slice (sl_d (ad := ad)) ha (po_some hl) (po_some hh)).imp fun σ H Q h => ?_
  obtain ⟨s, L, m, F, hs, hm, h⟩ := h
  simp only [ev] at h
  refine (tE_bind hs hm h).mono fun x H1 ⟨v, m1, F1, b1, r1⟩ => ?_
  have hs1 := hs.mono b1.ext.sub
  refine (tE_bind hs1 b1.sto b1.hold).mono fun y H2 ⟨u, m2, F2, b2, r2⟩ => ?_
  have hs2 := hs1.mono b2.ext.sub
  have hk := b2.hold
  split at hk
  · cases r2
    refine ⟨_, rfl, ?_⟩
    refine (tE_bind hs2 b2.sto hk).mono fun z H3 ⟨w, m3, F3, b3, r3⟩ => ?_
    have hj := b3.hold
    split at hj
    · cases r3
      exact ⟨_, rfl, slc_end b3.sto ((r1.mono b2.ext.sub).mono b3.ext.sub) hj⟩
    · exact hj.elim
  · exact hk.elim
theorem pf_slcL {lo : Ex} {lo' : Expr} (ha : PE X a' (tE X.K ad XR Wi W C a)) (hl : PE X lo' (tE X.K ad XR Wi W C lo)) :
    PE X (.Subscript a' (.Slice (some lo') none none p2) pos) (tE X.K ad XR Wi W C (.slc .lo a [lo])) := by
  refine (pe_slice (sl_d (ad := ad)) ha (po_some hl) po_none).imp fun σ H Q h => ?_
  obtain ⟨s, L, m, F, hs, hm, h⟩ := h
  simp only [ev] at h
  refine (tE_bind hs hm h).mono fun x H1 ⟨v, m1, F1, b1, r1⟩ => ?_
  have hs1 := hs.mono b1.ext.sub
  refine (tE_bind hs1 b1.sto b1.hold).mono fun y H2 ⟨u, m2, F2, b2, r2⟩ => ?_
  have hk := b2.hold
  split at hk
  · cases r2
    exact ⟨_, rfl, slc_end b2.sto (r1.mono b2.ext.sub) hk⟩
  · exact hk.elim
theorem pf_slcH {hi : Ex} {hi' : Expr} (ha : PE X a' (tE X.K ad XR Wi W C a)) (hl : PE X hi' (tE X.K ad XR Wi W C hi)) :
    PE X (.Subscript a' (.Slice none (some hi') none p2) pos) (tE X.K ad XR Wi W C (.slc .hi a [hi])) := by
  refine (pe_slice (sl_d (ad := ad)) ha po_none (po_some hl)).imp fun σ H Q h => ?_
  obtain ⟨s, L, m, F, hs, hm, h⟩ := h
  simp only [ev] at h
  refine (tE_bind hs hm h).mono fun x H1 ⟨v, m1, F1, b1, r1⟩ => ?_
  have hs1 := hs.mono b1.ext.sub
  refine (tE_bind hs1 b1.sto b1.hold).mono fun y H2 ⟨u, m2, F2, b2, r2⟩ => ?_
  have hk := b2.hold
  split at hk
  · cases r2
    exact ⟨_, rfl, slc_end b2.sto (r1.mono b2.ext.sub) hk⟩
  · exact hk.elim
theorem pf_slc0 (ha : PE X a' (tE X.K ad XR Wi W C a)) : PE X (.Subscript a' (.Slice none none none p2) pos) (tE X.K ad XR Wi W C (.slc .no a [])) := by
  refine (pe_slice (sl_d (ad := ad)) ha po_none po_none).imp fun σ H Q h => ?_
  obtain ⟨s, L, m, F, hs, hm, h⟩ := h
  simp only [ev] at h
  refine (tE_bind hs hm h).mono fun x H1 ⟨v, m1, F1, b1, r1⟩ => ?_
  exact slc_end b1.sto r1 b1.hold
/-! ### built-ins -/
theorem blt_read {bt : Bt} {es : List Ex} {Q : VK} (h : tE K ad XR Wi W C (.blt bt es) σ H Q) : tEs K ad XR Wi W C es σ H fun vs H1 => rBlt K ad bt vs H1 Q := by
  obtain ⟨s, L, m, F, hs, hm, h⟩ := h
  simp only [ev] at h
  refine (tEs_bind hs hm h).mono fun xs H1 ⟨vs, m1, F1, b1, r1⟩ => ?_
  have hh := b1.hold
  split at hh
  · rename_i ds e
    rw [ofO_ok] at hh
    split at hh
    · rename_i r hr
      exact ⟨F1, ds, r, b1.sto.sub, looks_ok b1.sto e r1, hr, hh.fin b1.sto⟩
    · exact hh.elim
  · exact hh.elim
theorem pf_blt {bt : Bt} {x : Str} {es : List Ex} {e1' : Expr} {es' : List Expr} {p : Pos} (S : XO X N sc Wi lv) (hx : btNm bt = x) (hm : X.mg x = none) (hg : Gl X x) (ha : PA X (e1' :: es') (tEs X.K ad XR Wi W C es)) (hst : (e1' :: es').all (fun e => !starB e) = true) :
    PE X (.Call (.Name x p) (e1' :: es') [] pos) (tE X.K ad XR Wi W C (.blt bt es)) := by
  subst hx
  rw [List.all_cons, Bool.and_eq_true, Bool.not_eq_true'] at hst
  obtain ⟨h1, _, h3⟩ := okNm_of (bt_ok bt)
  have hc := blt_ok (ad := ad) S.calm S.grd S.room.u64 bt
  have hv := bt_boot bt
  have hE := star_each hst.1 es' X.env
  have hA := star_any hst.2 pos X.env
  have : PE X (.Call (.Name (btNm bt) p) (e1' :: es') [] pos) (tCB (rBlt X.K ad bt) (tEs X.K ad XR Wi W C es)) := by
    cases bt <;> first | exact pe_callB hc hg hm hv ha h3 h1 hE hA | exact pe_callTy hc hg hm hv ha h3 h1 hE hA
  exact this.imp fun σ H Q h => blt_read h
theorem isi_read {t : String} {Q : VK} (h : tE K ad XR Wi W C (.isi a t) σ H Q) : tCons (tE K ad XR Wi W C a) (tCons (tC (.ty t)) tNil) σ H fun vs H1 => rIsiD K ad t vs H1 Q := by
  obtain ⟨s, L, m, F, hs, hm, h⟩ := h
  simp only [ev] at h
  refine (tE_bind hs hm h).mono fun x H1 ⟨v, m1, F1, b1, r1⟩ => ?_
  have hh := b1.hold
  split at hh
  · rename_i d hd
    rw [ofO_ok] at hh
    split at hh
    · rename_i r hr
      exact ⟨F1, x, d, r, rfl, b1.sto.sub, r1.lk b1.sto hd, hr, (hh.fin b1.sto).bl b1.sto.sub⟩
    · exact hh.elim
  · exact hh.elim
theorem isi_boot : bootBuiltins ("isinstance" : Str) = some (.builtin "isinstance") := by decide +kernel
theorem pf_isi {t : String} {x y : Str} {p p3 : Pos} (hx : x = ("isinstance" : Str)) (hm : X.mg x = none) (hg : Gl X x) (hty : tyNms.contains (t, y) = true) (hmy : X.mg y = none) (hgy : Gl X y) (ha : PE X a' (tE X.K ad XR Wi W C a)) (hst : starB a' = false) :
    PE X (.Call (.Name x p) [a', .Name y p3] [] pos) (tE X.K ad XR Wi W C (.isi a t)) := by
  subst hx
  obtain ⟨q1, q2⟩ := ty_boot (t, y) (by simpa using hty)
  obtain ⟨h1, _, h3⟩ := okNm_of q2
  have hy : PE X (.Name y p3) (tC (.ty t)) := pe_bltn hgy hmy q1 rfl h3 h1
  refine (pe_callB (isi_ok (ad := ad) t) hg hm isi_boot (pa_cons ha (pa_cons hy pa_nil) (star_each hst _ _)) (by decide) (by decide) (star_each hst _ _) rfl).imp fun σ H Q h => isi_read h
/-! ### targets -/
variable (K ad) in
def gD (tg : Tg) : TG := fun v σ H Q => ∃ L F d s s', SltR K ad L F s σ ∧ Rp K ad F v d ∧ Sub F H ∧ tgD tg d s = some s' ∧ ∀ σ', SltR K ad L F s' σ' → (∀ vs : List Nat, (∀ i ∈ slotsOf tg, i ∈ vs) → wipe σ' vs = wipe σ vs) → Q σ' H
variable (K ad) in
def gDs (tgs : List Tg) : TGs := fun vs σ H Q => ∃ L F ds s s', SltR K ad L F s σ ∧ RpA K ad F vs ds ∧ Sub F H ∧ tgDs tgs ds s = some s' ∧ ∀ σ', SltR K ad L F s' σ' → (∀ vs : List Nat, (∀ i ∈ slotsOfs tgs, i ∈ vs) → wipe σ' vs = wipe σ vs) → Q σ' H
theorem SltR.set {i : Nat} {v : Vl} {x : V} (h : SltR K ad L F s σ) (hi : i < s.length) (r : VlR K ad L F v x) : SltR K ad L F (s.set i (some v)) (σ.set i (some x)) := by
  refine ⟨by rw [List.length_set, List.length_set]; exact h.len, fun j u e => ?_⟩
  by_cases q : i = j
  · subst q
    rw [List.getElem?_set_self hi] at e
    cases e
    exact ⟨x, List.getElem?_set_self (by rw [h.len]; exact hi), r⟩
  · rw [List.getElem?_set_ne q] at e ⊢
    exact h.at_ j u e
theorem _root_.L2.PG.imp {X : Cx} {e : Expr} {t t' : TG} (h : PG X e t) (i : ∀ v σ H Q, t' v σ H Q → t v σ H Q) : PG X e t' := ⟨fun pins s σ H v u Q I r hw => h.run pins s σ H v u Q I r (i v σ H Q hw)⟩
theorem _root_.L2.PGs.imp {X : Cx} {e : List Expr} {t t' : TGs} (h : PGs X e t) (i : ∀ v σ H Q, t' v σ H Q → t v σ H Q) : PGs X e t' := ⟨fun pins s σ H v u Q I r hw => h.run pins s σ H v u Q I r (i v σ H Q hw)⟩
theorem XO.gl (S : XO X N sc Wi lv) {x : Str} (h : glbB sc x = true) : Gl X x := by
  show X.env.scope.names.lookup x = _
  rw [S.es]
  exact isKind_of h
theorem XO.vis (S : XO X N sc Wi lv) {x : Str} (h : visB sc x = true) : Vis X.env.scope x := by rw [S.es]; exact visB_of h
/-- the names of sc may be stored where X runs -/
def StB (X : Cx) (sc : Scope) : Prop := ∀ x, locB sc x = true → Loc X.env.scope x ∧ (X.fn x = true ∨ X.env.scope.names.lookup x = some .local)
theorem wipe_at (σ : L2.St) : ∀ (vs : List Nat) (i : Nat), (wipe σ vs)[i]? = if i ∈ vs ∧ i < σ.length then some none else σ[i]?
  | [], i => by simp [wipe]
  | v :: vs, i => by
    unfold wipe
    rw [List.getElem?_set, wipe_length, wipe_at σ vs i]
    by_cases h : v = i
    · subst h
      by_cases hl : v < σ.length
      · simp [hl]
      · simp [hl]
    · have : ¬ i = v := fun e => h e.symm
      simp [h, this]
theorem wipe_idem (σ : L2.St) (vs : List Nat) : wipe (wipe σ vs) vs = wipe σ vs := by
  apply List.ext_getElem?
  intro i
  rw [wipe_at, wipe_at, wipe_length]
  split <;> simp_all
theorem wipe_set (σ : L2.St) {vs : List Nat} {i : Nat} (h : i ∈ vs) (x : Option V) : wipe (σ.set i x) vs = wipe σ vs := by
  apply List.ext_getElem?
  intro j
  rw [wipe_at, wipe_at, List.length_set, List.getElem?_set]
  by_cases q : i = j
  · subst q
    by_cases hl : i < σ.length
    · simp [h, hl]
    · simp [hl]
  · simp [q]
theorem wipeS_at (s : Slots) : ∀ (vs : List Nat) (i : Nat), (wipeS s vs)[i]? = if i ∈ vs ∧ i < s.length then some none else s[i]?
  | [], i => by simp [wipeS]
  | v :: vs, i => by
    have hl : ∀ vs : List Nat, (wipeS s vs).length = s.length := fun vs => by
      induction vs with
      | nil => rfl
      | cons _ _ ih => unfold wipeS; rw [List.length_set, ih]
    unfold wipeS
    rw [List.getElem?_set, hl, wipeS_at s vs i]
    by_cases h : v = i
    · subst h
      by_cases hl : v < s.length
      · simp [hl]
      · simp [hl]
    · have : ¬ i = v := fun e => h e.symm
      simp [h, this]
theorem wipeS_len (s : Slots) (vs : List Nat) : (wipeS s vs).length = s.length := by
  induction vs with
  | nil => rfl
  | cons _ _ ih => unfold wipeS; rw [List.length_set, ih]
theorem SltR.wipe (h : SltR K ad L F s σ) (vs : List Nat) : SltR K ad L F (wipeS s vs) (L2.wipe σ vs) := by
  refine ⟨by rw [wipe_length, wipeS_len, h.len], fun i v e => ?_⟩
  rw [wipeS_at] at e
  split at e
  · cases e
  · rename_i q
    rw [wipe_at, if_neg (by rw [h.len]; exact q)]
    exact h.at_ i v e
theorem XO.at_ (S : XO X N sc Wi lv) {i : Nat} {x : Str} (h : atB N i x = true) : X.N[i]? = some x := by rw [S.nm]; exact of_decide_eq_true h
theorem assign_plain {e : Expr} (h : starB e = false) (es : List Expr) (env : Env) : assignEach (e :: es) env = (false, assign e env) :: assignEach es env := by
  cases e <;> first | rfl | cases h
theorem matTg_star {t : Tg} {e : Expr} (h : matTg N sc t e = true) : starB e = false := by
  cases e <;> first | rfl | (cases t <;> simp [matTg] at h)
theorem matTgs_each : ∀ {ts : List Tg} {es : List Expr}, matTgs N sc ts es = true → ∀ env, (assignEach es env).length = ts.length ∧ (assignEach es env).findIdx? (·.1) = none
  | [], [], _, _ => ⟨rfl, rfl⟩
  | [], _ :: _, h, _ => by simp [matTgs] at h
  | _ :: _, [], h, _ => by simp [matTgs] at h
  | t :: ts, e :: es, h, env => by
    simp only [matTgs, Bool.and_eq_true] at h
    rw [assign_plain (matTg_star h.1)]
    obtain ⟨h1, h2⟩ := matTgs_each h.2 env
    refine ⟨by simp [h1], ?_⟩
    rw [List.findIdx?_cons]
    simp [h2]
theorem tgDs_len : ∀ {ts : List Tg} {ds : List D} {s s' : Slots}, tgDs ts ds s = some s' → ds.length = ts.length
  | [], [], _, _, _ => rfl
  | [], _ :: _, _, _, h => by simp [tgDs] at h
  | _ :: _, [], _, _, h => by simp [tgDs] at h
  | t :: ts, d :: ds, s, s', h => by
    simp only [tgDs] at h
    obtain ⟨s1, _, h2⟩ := Option.bind_eq_some_iff.mp h
    simp [tgDs_len h2]
mutual
theorem pg_d {sc0 : Scope} (S : XO X N sc Wi lv) (B : StB X sc0) : ∀ (t : Tg) (e : Expr), matTg N sc0 t e = true → PG X e (gD X.K ad t)
  | .nm i, .Name x p, h => by
    simp only [matTg, Bool.and_eq_true] at h
    obtain ⟨l1, l2⟩ := B _ h.2
    refine (pg_name (by rw [S.nm]; exact S.nd) (S.at_ h.1) l1 l2).imp fun v σ H Q ⟨L, F, d, s, s', hs, r, sub, e, q⟩ => ?_
    simp only [tgD] at e
    split at e
    · rename_i hi
      cases e
      exact q _ (hs.set hi r) fun vs hv => wipe_set σ (hv i (by simp [slotsOf])) _
    · cases e
  | .tp ts, .Tuple es k p, h => by
    simp only [matTg] at h
    obtain ⟨h1, h2⟩ := matTgs_each h X.env
    refine ⟨fun pins s σ H v u Q I r hw => ?_⟩
    obtain ⟨L, F, d, s0, s', hs, rd, sub, e, q⟩ := hw
    cases d with
    | tup xs =>
      simp only [tgD] at e
      cases rd with
      | tup a b => exact (pg_tup S.calm (pgs_d S B ts es h) h1 h2).run pins s σ H _ u Q I r ⟨_, _, rfl, SqT.mono sub a, by rw [b.len]; exact tgDs_len e, L, F, xs, s0, s', hs, b, sub, e, fun σ' h1 h2 => q σ' h1 fun vs hv => h2 vs (by simpa [slotsOf] using hv)⟩
    | lst xs =>
      simp only [tgD] at e
      cases rd with
      | lst a b => exact (pg_unl S.calm (pgs_d S B ts es h) h1 h2).run pins s σ H _ u Q I r ⟨_, _, rfl, SqL.of (sub _ _ a), by rw [b.len]; exact tgDs_len e, L, F, xs, s0, s', hs, b, sub, e, fun σ' h1 h2 => q σ' h1 fun vs hv => h2 vs (by simpa [slotsOf] using hv)⟩
    | _ => simp [tgD] at e
  | .nm i, .Tuple _ _ _, h => by simp [matTg] at h
  | .nm i, .BoolOp _ _ _, h => by simp [matTg] at h
  | .nm i, .NamedExpr _ _ _, h => by simp [matTg] at h
  | .nm i, .BinOp _ _ _ _, h => by simp [matTg] at h
  | .nm i, .UnaryOp _ _ _, h => by simp [matTg] at h
  | .nm i, .Lambda _ _ _ _, h => by simp [matTg] at h
  | .nm i, .IfExp _ _ _ _, h => by simp [matTg] at h
  | .nm i, .Dict _ _ _, h => by simp [matTg] at h
  | .nm i, .Set _ _ _, h => by simp [matTg] at h
  | .nm i, .ListComp _ _ _ _, h => by simp [matTg] at h
  | .nm i, .SetComp _ _ _ _, h => by simp [matTg] at h
  | .nm i, .DictComp _ _ _ _ _, h => by simp [matTg] at h
  | .nm i, .GeneratorExp _ _ _ _, h => by simp [matTg] at h
  | .nm i, .Await _ _, h => by simp [matTg] at h
  | .nm i, .Yield _ _, h => by simp [matTg] at h
  | .nm i, .YieldFrom _ _, h => by simp [matTg] at h
  | .nm i, .Compare _ _ _ _, h => by simp [matTg] at h
  | .nm i, .Call _ _ _ _, h => by simp [matTg] at h
  | .nm i, .FormattedValue _ _ _ _, h => by simp [matTg] at h
  | .nm i, .JoinedStr _ _, h => by simp [matTg] at h
  | .nm i, .Constant _ _ _, h => by simp [matTg] at h
  | .nm i, .Attribute _ _ _, h => by simp [matTg] at h
  | .nm i, .Subscript _ _ _, h => by simp [matTg] at h
  | .nm i, .Starred _ _, h => by simp [matTg] at h
  | .nm i, .List _ _, h => by simp [matTg] at h
  | .nm i, .Slice _ _ _ _, h => by simp [matTg] at h
  | .tp ts, .Name _ _, h => by simp [matTg] at h
  | .tp ts, .BoolOp _ _ _, h => by simp [matTg] at h
  | .tp ts, .NamedExpr _ _ _, h => by simp [matTg] at h
  | .tp ts, .BinOp _ _ _ _, h => by simp [matTg] at h
  | .tp ts, .UnaryOp _ _ _, h => by simp [matTg] at h
  | .tp ts, .Lambda _ _ _ _, h => by simp [matTg] at h
  | .tp ts, .IfExp _ _ _ _, h => by simp [matTg] at h
  | .tp ts, .Dict _ _ _, h => by simp [matTg] at h
  | .tp ts, .Set _ _ _, h => by simp [matTg] at h
  | .tp ts, .ListComp _ _ _ _, h => by simp [matTg] at h
  | .tp ts, .SetComp _ _ _ _, h => by simp [matTg] at h
  | .tp ts, .DictComp _ _ _ _ _, h => by simp [matTg] at h
  | .tp ts, .GeneratorExp _ _ _ _, h => by simp [matTg] at h
  | .tp ts, .Await _ _, h => by simp [matTg] at h
  | .tp ts, .Yield _ _, h => by simp [matTg] at h
  | .tp ts, .YieldFrom _ _, h => by simp [matTg] at h
  | .tp ts, .Compare _ _ _ _, h => by simp [matTg] at h
  | .tp ts, .Call _ _ _ _, h => by simp [matTg] at h
  | .tp ts, .FormattedValue _ _ _ _, h => by simp [matTg] at h
  | .tp ts, .JoinedStr _ _, h => by simp [matTg] at h
  | .tp ts, .Constant _ _ _, h => by simp [matTg] at h
  | .tp ts, .Attribute _ _ _, h => by simp [matTg] at h
  | .tp ts, .Subscript _ _ _, h => by simp [matTg] at h
  | .tp ts, .Starred _ _, h => by simp [matTg] at h
  | .tp ts, .List _ _, h => by simp [matTg] at h
  | .tp ts, .Slice _ _ _ _, h => by simp [matTg] at h
theorem pgs_d {sc0 : Scope} (S : XO X N sc Wi lv) (B : StB X sc0) : ∀ (ts : List Tg) (es : List Expr), matTgs N sc0 ts es = true → PGs X es (gDs X.K ad ts)
  | [], [], h => pgs_nil.imp fun v σ H Q ⟨L, F, ds, s, s', hs, r, sub, e, q⟩ => by
    have hl := tgDs_len e
    cases ds with
    | cons => simp at hl
    | nil =>
      cases r
      simp only [tgDs] at e
      cases e
      exact ⟨rfl, q _ hs fun _ _ => rfl⟩
  | t :: ts, e :: es, h => by
    simp only [matTgs, Bool.and_eq_true] at h
    refine (pgs_cons (pg_d S B t e h.1) (pgs_d S B ts es h.2) (by rw [assign_plain (matTg_star h.1)]; rfl)).imp fun v σ H Q ⟨L, F, ds, s, s', hs, r, sub, e, q⟩ => ?_
    cases ds with
    | nil => simp [tgDs] at e
    | cons d ds =>
      cases r with
      | cons r1 r2 =>
        simp only [tgDs] at e
        obtain ⟨s1, e1, e2⟩ := Option.bind_eq_some_iff.mp e
        exact ⟨_, _, rfl, L, F, d, s, s1, hs, r1, sub, e1, fun σ' hs' w1 => ⟨L, F, ds, s1, s', hs', r2, sub, e2, fun σ2 hs2 w2 => q σ2 hs2 fun vs hv => by
          rw [w2 vs fun i hi => hv i (by simp [slotsOfs, hi]), w1 vs fun i hi => hv i (by simp [slotsOfs, hi])]⟩⟩
  | [], _ :: _, h => by simp [matTgs] at h
  | _ :: _, [], h => by simp [matTgs] at h
end
end
end EV

set_option Elab.async false
set_option linter.all false
set_option maxRecDepth 100000
set_option maxHeartbeats 4000000
/-! EV, part H: what is walked; comprehensions; all expressions. -/
namespace EV
open PySem PySem.Spec PyProof.Rows L2
set_option maxHeartbeats 1000000 in
theorem meets_enumerate_newB1 {v : Value} {o : Obj} {H : Heap → Prop} (B : Begins v o H) :
    Meets (Builtin.«enumerate.__new__» ⟨[.type "enumerate", v], []⟩) (fun _ R s => H s.heap ∧
      R (.ok (.ret (.ref (s.heap.push o).objs.size))) { s with heap := (s.heap.push o).push { cls := .type "enumerate", data := .fields #[.none, .bool false, .ref s.heap.objs.size, rawInt 0, .none, .none] } }) :=
  .of_wp fun prog w A R s h => by
    obtain ⟨hp, g, d, tk, os⟩ := s; obtain ⟨h1, h⟩ := h
    have hsub := sub_enumerate
    have q1 : ∀ {A' : Around} {E : Value → Shared → Prop} {Q : Value → Shared → Prop}, Q (.ref hp.objs.size) ⟨hp.push o, g, d, tk, os⟩ → wpAny (model prog w) A' (pyIter v) Q E ⟨hp, g, d, tk, os⟩ :=
      fun q => B.iter prog w _ _ ⟨hp, g, d, tk, os⟩ _ h1 q
    wp_walk using q1
    refine wpAny_stack_any fun st => wpAny_pure ?_
    split
    · rename_i c _ _ _ _ _
      cases (c == Value.type "enumerate")
      · wp_walk using q1
        exact ⟨_, rfl, h⟩
      · wp_walk using q1
        exact ⟨_, rfl, h⟩
    · wp_walk using q1
      exact ⟨_, rfl, h⟩
section
variable {prog : Program} {w : World} {A : Around} {E : Value → Shared → Prop} {s : Shared}
theorem enum_begins1 {v : Value} {o : Obj} {H : Heap → Prop} {Q : Value → Shared → Prop} (B : Begins v o H) (h1 : H s.heap)
    (h : ∀ h', IsEnum h' (s.heap.objs.size + 1) s.heap.objs.size 0 .none → h'.get? s.heap.objs.size = some o → h'.objs.size = s.heap.objs.size + 2 →
      (∀ b o, s.heap.get? b = some o → h'.get? b = some o) → Q (.ref (s.heap.objs.size + 1)) { s with heap := h' }) :
    wpAny (model prog w) A (call (.type "enumerate") [v]) Q E s := by
  refine callType_new F.called_enumerate (by decide) (F.typeCall_enumerate_1 _) (F.newCall_enumerate_1 _) (fun obj => F.args_object_init_2 obj _) F.entry_enumerate_new
    (meets_enumerate_newB1 B) ⟨h1, ?_⟩
  have hz : (s.heap.push o).objs.size = s.heap.objs.size + 1 := Heap.size_push ..
  show _ ∧ _
  rw [hz]
  have he : IsEnum ((s.heap.push o).push { cls := .type "enumerate", data := .fields #[.none, .bool false, .ref s.heap.objs.size, rawInt 0, .none, .none] }) (s.heap.objs.size + 1) s.heap.objs.size 0 .none := by
    have := Heap.get?_push_size (s.heap.push o) (o := { cls := .type "enumerate", data := .fields #[.none, .bool false, .ref s.heap.objs.size, rawInt 0, .none, .none] }) rfl
    rw [hz] at this; exact this
  refine ⟨⟨_, he, rfl⟩, h _ he (Heap.get?_push_of_some _ (Heap.get?_push_size _ B.free)) (by rw [Heap.size_push, hz]) fun b o x => Heap.get?_push_of_some _ (Heap.get?_push_of_some _ x)⟩
theorem pyNext_enumT_end {e it l : Addr} {i : Nat} {items : Array Value} {old : Value} {Q : Option Value → Shared → Prop} (hh : A.handled = none)
    (he : IsEnum s.heap e it i old) (hit : s.heap.IsTupleIter it l i) (hl : s.heap.IsTuple l items) (hx : items[i]? = none)
    (hQ : ∀ h', Heap.ExtBut it s.heap h' → Q none { s with heap := h' }) : wpAny (model prog w) A (pyNext (.ref e)) Q E s := by
  have hT : s.TypeIs (.ref e) "enumerate" := ⟨_, he, rfl⟩
  unfold pyNext
  refine wpAny_bind (wpAny_attempt (wpAny_callSpecial?_slot (name := Str.ofString "__next__") hT F.slot_enumerate_next
    (wpAny_call_entry F.slot_enumerate_next hT F.entry_enumerate_next ?_ (F.args_enumerate_next_1 _))))
  show wpAny _ _ (field (.ref e) 2 >>= _) _ _ _
  refine wpAny_bind (wpAny_field he rfl (x := .ref it) rfl ?_)
  refine wpAny_bind (PySem.wpAny_nextOf_tuple_end hh hit hl hx fun h' x he' hx' => ?_)
  obtain ⟨o, ho, hc⟩ := hx'
  refine wpAny_bind (wpAny_isInstance (T := "StopIteration") (b := true) ⟨o, ho, hc⟩ isSubtype_stop ?_)
  exact wpAny_pure (hQ _ he')
end
/-! enumerate(tuple) -/
/-- the tuple at a as it stands at each turn, each item in a new pair -/
def IteT (K : PySem.W.Frag) (a : Addr) : It :=
  ⟨fun i H => ∃ (xs : List V) (x : V), SqT K H a xs ∧ xs[i]? = some x, fun i H v H' => ∃ T x, v = .ref T ∧ H T = none ∧ H' = upd H T (.tup [.int (i : Nat), x]) ∧ ∀ xs, SqT K H a xs → xs[i]? = some x, fun i H => ∃ xs : List V, SqT K H a xs ∧ xs.length ≤ i⟩
theorem turn_enumT {P : Program} {w : World} {K : PySem.W.Frag} {elts : List Expr} {kk : Nat} {tpos : Pos} (a e it : Addr) :
    Turn P w K (.Tuple elts kk tpos) (IteT K a) [e, it] e (fun i h => (∃ old, IsEnum h e it ((i : Nat) : Int) old) ∧ h.IsTupleIter it a i ∧ e ≠ it ∧ a ≠ it ∧ e ≠ a) where
  mem := by simp
  obj := fun i h st b hb => by
    obtain ⟨⟨old, he⟩, ⟨o, ho, hc, hd⟩, _⟩ := st
    have e' : b = e ∨ b = it := by simpa using hb
    rcases e' with z | z
    · rw [z]; exact ⟨_, he, fun v q => nomatch q⟩
    · rw [z]; exact ⟨o, ho, fun v q => by rw [hd] at q; cases q⟩
  keep := fun i h h' st k => let ⟨⟨old, he⟩, hi, hne⟩ := st; ⟨⟨old, k e (by simp) _ he⟩, hi.at fun o q => k it (by simp) o q, hne⟩
  item := by
    intro X hP hw hK hc i pins s σ H E I hf st hg
    subst hP hw hK
    obtain ⟨⟨old, he⟩, hit, hne, hai, hea⟩ := st
    obtain ⟨xs, x, hq, hx⟩ := hg
    obtain ⟨its, rv, p, hz⟩ := I.tuple hq
    obtain ⟨u, hu, ru⟩ := rv.get hx
    have hel : e < s.heap.objs.size := Heap.lt_size he
    have hil : it < s.heap.objs.size := by obtain ⟨_, q, _⟩ := hit; exact Heap.lt_size q
    have hli : i < its.toArray.size := by
      have := (List.getElem?_eq_some_iff.mp hu).1
      simpa using this
    refine wpAny_pyNext_enum_itemD (Draws.tuple (prog := X.prog) (w := X.w) (A := X.A.in1) (I.ok.hd hc) it a hai its.toArray) he ⟨hit, p⟩ hli hne (by simp [hne, hea]) fun u' h' tk hu' ho st' hT hsz hk => ?_
    have eu : u' = u := by
      have hu2 : its.toArray[i]? = some u := by simpa using hu
      exact Option.some.inj (hu'.symm.trans hu2)
    subst eu
    obtain ⟨hit', _⟩ := st'
    refine ⟨_, rfl, wpAny_letOwnedTupleGo_enum (s := { s with heap := h', toks := tk + 1 }) ho fun h'' he' sb => ?_⟩
    have hT2 : h''.get? s.heap.objs.size = some { cls := .type "tuple", data := .seq #[.int i tk, u'] } := (sb.2 _ (Nat.ne_of_gt hel)).trans hT
    have new : ObjOk X.prog X.w (upd H s.heap.objs.size (.tup [.int (i : Nat), x])) h'' s.heap.objs.size (.tup [.int (i : Nat), x]) :=
      ⟨by show 2 ≤ sizeLine; decide, [.int i tk, u'], .cons ⟨_, rfl⟩ (.cons ru .nil), ⟨_, hT2, rfl, _, rfl⟩⟩
    have I1 : Inv X pins σ (upd H s.heap.objs.size (.tup [.int (i : Nat), x])) { s with heap := h'', toks := tk + 1 } :=
      I.turnedNew (ch := [e, it]) (fun b ob hb q => (sb.2 b (fun z => hb (by simp [z]))).trans (hk b ob (fun z => hb (by simp [z])) (fun z => hb (by simp [z])) q)) hf (Nat.le_refl _) new
    refine ⟨.ref s.heap.objs.size, _, I1, rfl, ⟨_, x, rfl, I.hok.fresh (Nat.le_refl _), rfl, fun ys hy => by rw [I.tuple_inj hy hq]; exact hx⟩, ⟨⟨u', ?_⟩, hit'.at fun o q => (sb.2 it (Ne.symm hne)).trans q, hne, hai, hea⟩, fun b hb => ?_⟩
    · have e1 : ((i + 1 : Nat) : Int) = (i : Int) + 1 := by omega
      rw [e1]; exact he'
    · have hb' : b < s.heap.objs.size := by
        have e' : b = e ∨ b = it := by simpa using hb
        rcases e' with z | z
        · rw [z]; exact hel
        · rw [z]; exact hil
      rw [upd_ne (Nat.ne_of_lt hb')]
      exact (hf b hb).1
  done := by
    intro X hP hw hK hc i pins s σ H E I hf st hg
    subst hP hw hK
    obtain ⟨⟨old, he⟩, hit, hne, hai, hea⟩ := st
    obtain ⟨xs, hq, hx⟩ := hg
    obtain ⟨its, rv, p, hz⟩ := I.tuple hq
    obtain ⟨f0, f1, f2, f3, f4, f5⟩ := hf it (by simp)
    have hl := rv.length
    exact pyNext_enumT_end (I.ok.hd hc) he hit p (by simp; omega) fun h' eb => ⟨rfl, I.turned (t' := s.toks) (fun b o hb q => eb b o hb q) f0 f1 f3 f4 f5⟩
  self := fun A i s Q E st h => let ⟨⟨_, he⟩, _⟩ := st; wpAny_pyIter_enum he h
def iEnumA (K : PySem.W.Frag) (ta : TA) : TI := fun σ H R => ta σ H fun vs H1 => ∃ a xs, vs = [.ref a] ∧ ((SqL K H1 a xs ∧ R (Ite K a) H1) ∨ (SqT K H1 a xs ∧ R (IteT K a) H1))
theorem pi_enumA {X : Cx} {e : Expr} {ta : TA} {p pos tpos : Pos} {elts : List Expr} {kk : Nat} (hg : Gl X "enumerate") (hm : X.mg "enumerate" = none) (ha : PA X [e] ta) (hs : starEach [e] X.env = [(false, eval e X.env)] := by rfl) :
    PI X (.Tuple elts kk tpos) (.Call (.Name "enumerate" p) [e] [] pos) (iEnumA X.K ta) := by
  refine ⟨fun pins s σ H R I h => ?_⟩
  refine Call_ (ld_blt I hg hm boot_enumerate (PyProof.Rows.callWith_type1 (thn (ha.run pos pins s σ H _ I h) fun us s1 ⟨vs, H1, I1, r1, q1⟩ => ?_) hs rfl))
  obtain ⟨a, xs, ex, q1⟩ := q1
  subst ex
  cases r1 with
  | cons r rr =>
    cases rr
    cases r
    have fresh2 : ∀ b ∈ [s1.heap.objs.size + 1, s1.heap.objs.size], FpOk X pins H1 b := fun b hb => by
      have e' : b = s1.heap.objs.size + 1 ∨ b = s1.heap.objs.size := by simpa using hb
      have hle : s1.heap.objs.size ≤ b := by
        rcases e' with z | z
        · rw [z]; exact Nat.le_add_right _ _
        · rw [z]; exact Nat.le_refl _
      exact I1.fpOk hle (I1.hok.fresh hle)
    rcases q1 with ⟨hq, q⟩ | ⟨hq, q⟩
    · obtain ⟨its, rv, p', hz⟩ := I1.list hq
      refine call_enumerate_list p'.isList fun h' he hit hsz hk => wpAny_pyIter_enum he ?_
      have I2 : Inv X pins σ H1 { s1 with heap := h' } := I1.kept (t' := s1.toks) hk
      exact ⟨s1.heap.objs.size + 1, [s1.heap.objs.size + 1, s1.heap.objs.size], _, _, H1, rfl, I2, turn_enum a (s1.heap.objs.size + 1) s1.heap.objs.size, ⟨⟨.none, he⟩, hit, Nat.succ_ne_self _⟩, fresh2, q⟩
    · obtain ⟨its, rv, p', hz⟩ := I1.tuple hq
      obtain ⟨o1, ho1, _⟩ := id p'
      have hla : a < s1.heap.objs.size := Heap.lt_size ho1
      refine enum_begins1 (begins_tuple a its.toArray) (show s1.heap.IsTuple a its.toArray from p') fun h' he hit hsz hk => wpAny_pyIter_enum he ?_
      have I2 : Inv X pins σ H1 { s1 with heap := h' } := I1.kept (t' := s1.toks) hk
      exact ⟨s1.heap.objs.size + 1, [s1.heap.objs.size + 1, s1.heap.objs.size], _, _, H1, rfl, I2, turn_enumT a (s1.heap.objs.size + 1) s1.heap.objs.size, ⟨⟨.none, he⟩, ⟨_, hit, rfl, rfl⟩, Nat.succ_ne_self _, Nat.ne_of_lt hla, Nat.ne_of_gt (Nat.lt_succ_of_lt hla)⟩, fresh2, q⟩
section
variable (K : PySem.W.Frag) (ad : Nat → Addr) (XR : Xc → Value → Option Addr → Hp → Hp → Prop) (Wi : XK) (W : Wd) (C : Cal)
/-- what J walks while F0 stands: these data -/
structure WkD (F0 : Hp) (J : It) (xs : List D) : Prop where
  goes : ∀ i H, i < xs.length → Sub F0 H → J.go i H
  stops : ∀ H, Sub F0 H → J.stop xs.length H
  yld : ∀ (i : Nat) (d : D) F H x H', xs[i]? = some d → Sub F0 F → Sub F H → J.yld i H x H' → ∃ F', Grow F H F' H' ∧ Rp K ad F' x d
def tI (ik : IK) (src : List Ex) : TI := fun σ H R => tEs K ad XR Wi W C src σ H fun vs H1 => ∃ F1 ds xs, Sub F1 H1 ∧ RpA K ad F1 vs ds ∧ walkD ik ds = some xs ∧ ∀ J, WkD K ad F1 J xs → R J H1
end
section
variable {K : PySem.W.Frag} {ad : Nat → Addr} {XR : Xc → Value → Option Addr → Hp → Hp → Prop} {Wi : XK} {W : Wd} {C : Cal} {σ : L2.St} {H : Hp} {s : Slots} {L : List Addr} {m : Sto} {F F0 : Hp}
variable {X : Cx} {N : List Str} {sc : Scope} {lv : Nat} {n : Wn} {pos p2 : Pos} {e a b c : Ex} {t0 t1 : Tx} {a' b' c' tg' : Expr}
theorem _root_.L2.PI.imp {X : Cx} {tg e : Expr} {t t' : TI} (h : PI X tg e t) (i : ∀ σ H R, t' σ H R → t σ H R) : PI X tg e t' := ⟨fun pins s σ H R I hw => h.run pins s σ H R I (i σ H R hw)⟩
theorem wk_list {a : Addr} {vs : List V} {ds : List D} (h : F0 a = some (.lst vs)) (r : RpA K ad F0 vs ds) : WkD K ad F0 (Itl K a) ds where
  goes := fun i H hi sub => by
    obtain ⟨v, e, _⟩ := r.get (List.getElem?_eq_getElem hi)
    exact ⟨vs, v, SqL.of (sub _ _ h), e⟩
  stops := fun H sub => ⟨vs, SqL.of (sub _ _ h), by rw [r.len]; exact Nat.le_refl _⟩
  yld := fun i d F H x H' hd s1 s2 ⟨e, y⟩ => by
    subst e
    obtain ⟨v, e, rv⟩ := r.get hd
    have q := y vs (SqL.of (s2 _ _ (s1 _ _ h)))
    rw [e] at q; cases q
    exact ⟨F, .refl s2, rv.mono s1⟩
theorem wk_tup {a : Addr} {vs : List V} {ds : List D} (h : SqT K F0 a vs) (r : RpA K ad F0 vs ds) : WkD K ad F0 (Itt K a) ds where
  goes := fun i H hi sub => by
    obtain ⟨v, e, _⟩ := r.get (List.getElem?_eq_getElem hi)
    exact ⟨vs, v, SqT.mono sub h, e⟩
  stops := fun H sub => ⟨vs, SqT.mono sub h, by rw [r.len]; exact Nat.le_refl _⟩
  yld := fun i d F H x H' hd s1 s2 ⟨e, y⟩ => by
    subst e
    obtain ⟨v, e, rv⟩ := r.get hd
    have q := y vs (SqT.mono (s1.trans s2) h)
    rw [e] at q; cases q
    exact ⟨F, .refl s2, rv.mono s1⟩
theorem rngD_get {lo : Int} {k i : Nat} {d : D} (h : (rngD lo k)[i]? = some d) : d = .int (lo + (i : Nat)) := by
  unfold rngD at h
  rw [List.getElem?_map] at h
  obtain ⟨j, e, rfl⟩ := Option.map_eq_some_iff.mp h
  obtain ⟨h1, h2⟩ := List.getElem?_eq_some_iff.mp e
  simp at h2
  rw [← h2]
theorem wk_rng {lo : Int} {k : Nat} : WkD K ad F0 (Itr lo k) (rngD lo k) where
  goes := fun i H hi sub => by simpa [rngD, Itr] using hi
  stops := fun H sub => by simp [rngD, Itr]
  yld := fun i d F H x H' hd s1 s2 ⟨e, y⟩ => by
    subst e
    rw [rngD_get hd, y]
    exact ⟨F, .refl s2, .int _⟩
theorem pair_new {T : Addr} {x y : V} {d e : D} (s : Sub F H) (h : H T = none) (rx : Rp K ad F x d) (ry : Rp K ad F y e) : ∃ F', Grow F H F' (upd H T (.tup [x, y])) ∧ Rp K ad F' (.ref T) (.tup [d, e]) := by
  have g := Grow.new (o := .tup [x, y]) s h
  exact ⟨_, g, .tup (SqT.of upd_same) (.cons (rx.mono g.sub) (.cons (ry.mono g.sub) .nil))⟩
theorem zipIdx_get {ds : List D} {i : Nat} {d : D} (h : ((ds.zipIdx).map fun p => D.tup [.int (p.2 : Nat), p.1])[i]? = some d) : ∃ x, ds[i]? = some x ∧ d = .tup [.int (i : Nat), x] := by
  rw [List.getElem?_map] at h
  obtain ⟨p, e, rfl⟩ := Option.map_eq_some_iff.mp h
  rw [List.getElem?_zipIdx] at e
  obtain ⟨x, e1, rfl⟩ := Option.map_eq_some_iff.mp e
  exact ⟨x, e1, by simp⟩
theorem wk_enum {a : Addr} {vs : List V} {ds : List D} (h : F0 a = some (.lst vs)) (r : RpA K ad F0 vs ds) : WkD K ad F0 (Ite K a) ((ds.zipIdx).map fun p => D.tup [.int (p.2 : Nat), p.1]) where
  goes := fun i H hi sub => by
    have hi' : i < ds.length := by simpa using hi
    obtain ⟨v, e, _⟩ := r.get (List.getElem?_eq_getElem hi')
    exact ⟨vs, v, SqL.of (sub _ _ h), e⟩
  stops := fun H sub => ⟨vs, SqL.of (sub _ _ h), by rw [r.len]; simp⟩
  yld := fun i d F H x H' hd s1 s2 ⟨T, v, e1, e2, e3, y⟩ => by
    subst e1 e3
    obtain ⟨z, hz, rfl⟩ := zipIdx_get hd
    obtain ⟨w, e, rw'⟩ := r.get hz
    have q := y vs (SqL.of (s2 _ _ (s1 _ _ h)))
    rw [e] at q; cases q
    exact pair_new s2 e2 (.int _) (rw'.mono s1)
theorem wk_enumT {a : Addr} {vs : List V} {ds : List D} (h : SqT K F0 a vs) (r : RpA K ad F0 vs ds) : WkD K ad F0 (IteT K a) ((ds.zipIdx).map fun p => D.tup [.int (p.2 : Nat), p.1]) where
  goes := fun i H hi sub => by
    have hi' : i < ds.length := by simpa using hi
    obtain ⟨v, e, _⟩ := r.get (List.getElem?_eq_getElem hi')
    exact ⟨vs, v, SqT.mono sub h, e⟩
  stops := fun H sub => ⟨vs, SqT.mono sub h, by rw [r.len]; simp⟩
  yld := fun i d F H x H' hd s1 s2 ⟨T, v, e1, e2, e3, y⟩ => by
    subst e1 e3
    obtain ⟨z, hz, rfl⟩ := zipIdx_get hd
    obtain ⟨w, e, rw'⟩ := r.get hz
    have q := y vs (SqT.mono (s1.trans s2) h)
    rw [e] at q; cases q
    exact pair_new s2 e2 (.int _) (rw'.mono s1)
theorem zip_get {ds es : List D} {i : Nat} {d : D} (h : ((ds.zip es).map fun p => D.tup [p.1, p.2])[i]? = some d) : ∃ x y, ds[i]? = some x ∧ es[i]? = some y ∧ d = .tup [x, y] := by
  rw [List.getElem?_map] at h
  obtain ⟨p, e, rfl⟩ := Option.map_eq_some_iff.mp h
  rw [List.getElem?_zip_eq_some] at e
  exact ⟨p.1, p.2, e.1, e.2, rfl⟩
theorem wk_zipL {a b : Addr} {vs ws : List V} {ds es : List D} (h : F0 a = some (.lst vs)) (r : RpA K ad F0 vs ds) (h' : F0 b = some (.lst ws)) (r' : RpA K ad F0 ws es) : WkD K ad F0 (Itz K a b) ((ds.zip es).map fun p => D.tup [p.1, p.2]) where
  goes := fun i H hi sub => by
    have hi' : i < ds.length ∧ i < es.length := by simpa [Nat.lt_min] using hi
    obtain ⟨v, e, _⟩ := r.get (List.getElem?_eq_getElem hi'.1)
    obtain ⟨v', e', _⟩ := r'.get (List.getElem?_eq_getElem hi'.2)
    exact ⟨vs, ws, v, v', SqL.of (sub _ _ h), SqL.of (sub _ _ h'), e, e'⟩
  stops := fun H sub => ⟨vs, ws, SqL.of (sub _ _ h), SqL.of (sub _ _ h'), by rw [r.len, r'.len]; simp; omega⟩
  yld := fun i d F H x H' hd s1 s2 ⟨T, v, u, e1, e2, e3, y, y'⟩ => by
    subst e1 e3
    obtain ⟨z, z', hz, hz', rfl⟩ := zip_get hd
    obtain ⟨w, e, rw'⟩ := r.get hz
    obtain ⟨w', e', rw2⟩ := r'.get hz'
    have q := y vs (SqL.of (s2 _ _ (s1 _ _ h)))
    rw [e] at q; cases q
    have q := y' ws (SqL.of (s2 _ _ (s1 _ _ h')))
    rw [e'] at q; cases q
    exact pair_new s2 e2 (rw'.mono s1) (rw2.mono s1)
theorem wk_zipT {a b : Addr} {vs ws : List V} {ds es : List D} (h : SqT K F0 a vs) (r : RpA K ad F0 vs ds) (h' : SqT K F0 b ws) (r' : RpA K ad F0 ws es) : WkD K ad F0 (RZ.ItzT K a b) ((ds.zip es).map fun p => D.tup [p.1, p.2]) where
  goes := fun i H hi sub => by
    have hi' : i < ds.length ∧ i < es.length := by simpa [Nat.lt_min] using hi
    obtain ⟨v, e, _⟩ := r.get (List.getElem?_eq_getElem hi'.1)
    obtain ⟨v', e', _⟩ := r'.get (List.getElem?_eq_getElem hi'.2)
    exact ⟨vs, ws, v, v', SqT.mono sub h, SqT.mono sub h', e, e'⟩
  stops := fun H sub => ⟨vs, ws, SqT.mono sub h, SqT.mono sub h', by rw [r.len, r'.len]; simp; omega⟩
  yld := fun i d F H x H' hd s1 s2 ⟨T, v, u, e1, e2, e3, y, y'⟩ => by
    subst e1 e3
    obtain ⟨z, z', hz, hz', rfl⟩ := zip_get hd
    obtain ⟨w, e, rw'⟩ := r.get hz
    obtain ⟨w', e', rw2⟩ := r'.get hz'
    have q := y vs (SqT.mono (s1.trans s2) h)
    rw [e] at q; cases q
    have q := y' ws (SqT.mono (s1.trans s2) h')
    rw [e'] at q; cases q
    exact pair_new s2 e2 (rw'.mono s1) (rw2.mono s1)
theorem it_list {pins : List (Addr × Obj)} {s : Shared} {a : Addr} {xs : List V} {R : It → Hp → Prop} {E : Value → Shared → Prop} (I : L2.Inv X pins σ H s) (hq : SqL X.K H a xs) (q : R (Itl X.K a) H) : wpAny (model X.prog X.w) X.A (pyIter (.ref a)) (PIE X pins σ tg' R) E s := by
  obtain ⟨its, rv, p, hz⟩ := I.list hq
  exact wpAny_pyIter_list p.isList (pi_one (tk := s.toks) I _ (turn_list a _) ⟨_, Heap.get?_push_size _ rfl, rfl, rfl⟩ q)
theorem it_tup {pins : List (Addr × Obj)} {s : Shared} {a : Addr} {xs : List V} {R : It → Hp → Prop} {E : Value → Shared → Prop} (I : L2.Inv X pins σ H s) (hq : SqT X.K H a xs) (q : R (Itt X.K a) H) : wpAny (model X.prog X.w) X.A (pyIter (.ref a)) (PIE X pins σ tg' R) E s := by
  obtain ⟨its, rv, p, hz⟩ := I.tuple hq
  exact wpAny_pyIter_tuple (show s.heap.IsTuple a its.toArray from p) (pi_one (tk := s.toks) I _ (turn_tuple a _) ⟨_, Heap.get?_push_size _ rfl, rfl, rfl⟩ q)
theorem tEs_one {Q : List V → Hp → Prop} (h : tEs K ad XR Wi W C [e] σ H Q) : tE K ad XR Wi W C e σ H fun x H1 => Q [x] H1 := by
  obtain ⟨s, L, m, F, hs, hm, h⟩ := h
  simp only [evs] at h
  refine (tE_bind hs hm h).mono fun x H1 ⟨v, m1, F1, b1, r1⟩ => ?_
  exact b1.hold.now (a := [v]) b1.sto (.refl b1.sto.sub) (.cons r1 .nil)
theorem pi_seq (ha : PE X a' (tE X.K ad XR Wi W C a)) : PI X tg' a' (tI X.K ad XR Wi W C .seq [a]) := by
  refine ⟨fun pins s₀ σ H R I h => ?_⟩
  refine thn (ha.run pins s₀ σ H _ I (tEs_one h)) fun v s1 ⟨x, H1, I1, r1, F1, ds, xs, sub, rs, hw, q⟩ => ?_
  cases rs with
  | cons r2 r3 =>
    cases r3
    cases r2 with
    | tup a b =>
      cases hw
      cases r1
      exact it_tup I1 (SqT.mono sub a) (q _ (wk_tup a b))
    | lst a b =>
      cases hw
      cases r1
      exact it_list I1 (SqL.of (sub _ _ a)) (q _ (wk_list a b))
    | non => cases hw
    | bl _ => cases hw
    | int _ => cases hw
    | str _ => cases hw
    | obj _ => cases hw
    | scr _ _ => cases hw
theorem inRg_of {i : Int} (h : inRg i = true) : -(2 ^ 62) ≤ i ∧ i < 2 ^ 62 := by
  simp only [inRg, Bool.and_eq_true, decide_eq_true_eq] at h
  omega
theorem rng1_read {es : List Ex} {R : It → Hp → Prop} (h : tI K ad XR Wi W C .rng1 es σ H R) : iRng1 (tEs K ad XR Wi W C es) σ H R := by
  refine tEs.mono h fun vs H1 ⟨F1, ds, xs, sub, rs, hw, q⟩ => ?_
  unfold walkD at hw
  split at hw <;> try (cases hw; done)
  all_goals try contradiction
  split at hw
  · rename_i hr
    cases hw
    obtain ⟨h1, h2⟩ := inRg_of hr
    cases rs with
    | cons r2 r3 =>
      cases r3; cases r2
      exact ⟨_, rfl, h1, h2, q _ wk_rng⟩
  · cases hw
theorem rng2_read {es : List Ex} {R : It → Hp → Prop} (h : tI K ad XR Wi W C .rng2 es σ H R) : iRng2 (tEs K ad XR Wi W C es) σ H R := by
  refine tEs.mono h fun vs H1 ⟨F1, ds, xs, sub, rs, hw, q⟩ => ?_
  unfold walkD at hw
  split at hw <;> try (cases hw; done)
  all_goals try contradiction
  split at hw
  · rename_i hr
    cases hw
    rw [Bool.and_eq_true] at hr
    obtain ⟨h1, h2⟩ := inRg_of hr.1
    obtain ⟨h3, h4⟩ := inRg_of hr.2
    cases rs with
    | cons r2 r3 =>
      cases r2
      cases r3 with
      | cons r4 r5 =>
        cases r4; cases r5
        exact ⟨_, _, rfl, ⟨h1, h2, h3, h4⟩, q _ wk_rng⟩
  · cases hw
theorem enum_read {es : List Ex} {R : It → Hp → Prop} (h : tI K ad XR Wi W C .enum es σ H R) : iEnumA K (tEs K ad XR Wi W C es) σ H R := by
  refine tEs.mono h fun vs H1 ⟨F1, ds, xs, sub, rs, hw, q⟩ => ?_
  unfold walkD at hw
  split at hw <;> try (cases hw; done)
  all_goals try contradiction
  obtain ⟨ys, e1, rfl⟩ := Option.map_eq_some_iff.mp hw
  cases rs with
  | cons r2 r3 =>
    cases r3
    cases r2 with
    | lst a b => cases e1; exact ⟨_, _, rfl, .inl ⟨SqL.of (sub _ _ a), q _ (wk_enum a b)⟩⟩
    | tup a b => cases e1; exact ⟨_, _, rfl, .inr ⟨SqT.mono sub a, q _ (wk_enumT a b)⟩⟩
    | _ => cases e1
theorem zip_read {es : List Ex} {R : It → Hp → Prop} (h : tI K ad XR Wi W C .zip es σ H R) : RZ.iZipA K (tEs K ad XR Wi W C es) σ H R := by
  refine tEs.mono h fun vs H1 ⟨F1, ds, xs, sub, rs, hw, q⟩ => ?_
  unfold walkD at hw
  split at hw <;> try (cases hw; done)
  all_goals try contradiction
  split at hw
  · rename_i hl
    obtain ⟨ys, e1, hw⟩ := Option.bind_eq_some_iff.mp hw
    obtain ⟨zs, e2, rfl⟩ := Option.map_eq_some_iff.mp hw
    cases rs with
    | cons r2 r3 =>
      cases r3 with
      | cons r4 r5 =>
        cases r5
        cases r2 with
        | lst a b =>
          cases e1
          cases r4 with
          | lst a' b' =>
            cases e2
            exact ⟨_, _, _, _, rfl, .inl ⟨SqL.of (sub _ _ a), SqL.of (sub _ _ a'), q _ (wk_zipL a b a' b')⟩⟩
          | tup a' b' => simp [isLst] at hl
          | _ => cases e2
        | tup a b =>
          cases e1
          cases r4 with
          | tup a' b' =>
            cases e2
            exact ⟨_, _, _, _, rfl, .inr ⟨SqT.mono sub a, SqT.mono sub a', q _ (wk_zipT a b a' b')⟩⟩
          | lst a' b' => simp [isLst] at hl
          | _ => cases e2
        | _ => cases e1
  · cases hw
end
end EV

set_option Elab.async false
set_option linter.all false
set_option maxRecDepth 100000
set_option maxHeartbeats 4000000
/-! EV, part I: comprehensions; all expressions. -/
namespace EV
open PySem PySem.Spec PyProof.Rows L2
section
variable {K : PySem.W.Frag} {ad : Nat → Addr} {XR : Xc → Value → Option Addr → Hp → Hp → Prop} {Wi : XK} {W : Wd} {C : Cal} {σ : L2.St} {H H1 : Hp} {s : Slots} {L : List Addr} {m m1 : Sto} {F F0 F1 : Hp}
variable {X : Cx} {N : List Str} {sc : Scope} {lv : Nat} {n : Wn} {pos p2 : Pos} {e a b c : Ex} {t0 t1 : Tx} {a' b' c' tg' : Expr}
/-- a new list, not frozen, written or made -/
theorem StoR.wr {p : Addr} {o : HO} (s : StoR K ad L m F H) (n : ¬ Own L m p) (h1 : F p = none) : StoR K ad L m F (upd H p o) :=
  ⟨fun a u e => (by
    have ne : a ≠ p := ne_of_none e h1
    rw [upd_ne ne]; exact s.sub _ _ e), fun i xs e => (by
    obtain ⟨a, vs, e1, e2, e3, e4⟩ := s.obj i xs e
    have ne : a ≠ p := fun z => n ⟨i, ⟨xs, e⟩, z ▸ e1⟩
    exact ⟨a, vs, e1, e2, by rw [upd_ne ne]; exact e3, e4⟩), s.inj, s.len⟩
theorem Ext.wr {p : Addr} {o : HO} (e : Ext L m F H m1 F1 H1) (h : H p = none) : Ext L m F H m1 F1 (upd H1 p o) :=
  ⟨e.sub, fun a u q n => (by rw [upd_ne (ne_of_none q h)]; exact e.keep a u q n), e.own, e.len, e.fresh, fun a u q => (by rw [upd_ne (ne_of_none q h)]; exact e.there a u q)⟩
/-- a wished datum from a new list -/
theorem frz_hold {r : R (List D)} {Q : VK} (st : StoR K ad L m F H) (h : Hold K ad XR Wi (relV K ad L) (r.bind fun ds m => .ok (.dat (.lst ds)) m) L m F H Q) : Hold K ad XR Wi (relN K ad H) r L m F H Q := by
  cases r with
  | ok ds m2 =>
    intro F' H' x ex st' ⟨p, vs, e, e1, e2, e3, e4⟩
    subst e
    exact h (upd F' p (.lst vs)) H' _ (ex.frz e2 e1 e3) (st'.frz (ex.notOwn st e2) e1 e3) (.lst upd_same (e4.mono (sub_upd e1)))
  | exc => exact h
  | bad => exact h
variable (K ad XR Wi W C) in
def tIfs (ifs : List Tx) : TT := fun σ H Q => ∃ s L m F, SltR K ad L F s σ ∧ StoR K ad L m F H ∧ Hold K ad XR Wi relB (evIfs W C ifs s m) L m F H Q
variable (K ad XR Wi W C) in
/-- an expression that makes a new list -/
def tN (e : Ex) : TE := fun σ H Q => ∃ s L m F, SltR K ad L F s σ ∧ StoR K ad L m F H ∧ Hold K ad XR Wi (relN K ad H) (evN W C e s m) L m F H Q
/-- behind i turns of a comprehension that began at (m1, F1, H1), its list at D0 -/
structure CI (K : PySem.W.Frag) (ad : Nat → Addr) (XR : Xc → Value → Option Addr → Hp → Hp → Prop) (Wi : XK) (f : D → Sto → R (Option D)) (xs : List D) (L : List Addr) (m1 : Sto) (F1 H1 : Hp) (D0 : Addr) (Q : VK) (i : Nat) (m' : Sto) (F' : Hp) (acc : List D) (vs : List V) (H' : Hp) : Prop where
  ext : Ext L m1 F1 H1 m' F' H'
  sto : StoR K ad L m' F' H'
  fD : F' D0 = none
  hD : H' D0 = some (.lst vs)
  rep : RpA K ad F' vs acc
  len : acc.length ≤ i
  hold : Hold K ad XR Wi (relN K ad H1) (loopC f (xs.drop i) acc m') L m1 F1 H1 Q
theorem noX_ok {α : Type} {r : R α} {a : α} {m : Sto} (h : noX r = .ok a m) : r = .ok a m := by
  cases r with
  | ok => exact h
  | exc => cases h
  | bad => cases h
/-- a part that may not raise -/
theorem Hold.noX {α β : Type} {rel : Hp → Hp → α → β → Prop} {r : R α} {Q : β → Hp → Prop} {Wx : XK} (h : ∀ a m', EV.noX r = .ok a m' → ∀ F' H' x, Ext L m F H m' F' H' → StoR K ad L m' F' H' → rel F' H' a x → Q x H') (hb : EV.noX r ≠ .bad) : Hold K ad XR Wx rel r L m F H Q := by
  cases r with
  | ok a m' => exact h a m' rfl
  | exc => exact absurd rfl hb
  | bad => exact absurd rfl hb
theorem comp_read {tg : Tg} {ik : IK} {src : List Ex} {ifs : List Tx} {elt : Ex} {Q : VK} (hs : SltR K ad L F s σ) (hm : StoR K ad L m F H)
    (h : Hold K ad XR Wi (relN K ad H) (evC W C tg ik src ifs elt s m) L m F H Q) :
    tLc (tI K ad XR Wi W C ik src) (gD K ad tg) (tIfs K ad XR (fun _ _ _ => False) W C ifs) (tE K ad XR (fun _ _ _ => False) W C elt) (slotsOf tg) σ H Q := by
  unfold evC at h
  have hb := h.bh (relVs K ad L)
  refine ⟨s, L, m, F, hs, hm, hb.mono fun vsV H1 ⟨vs, m1, F1, b1, r1⟩ => ?_⟩
  have hh := b1.hold
  cases e1 : datsOf vs with
  | none => rw [e1] at hh; exact hh.elim
  | some ds =>
  rw [e1] at hh
  dsimp only at hh
  cases e2 : walkD ik ds with
  | none => rw [e2] at hh; exact hh.elim
  | some xs =>
  rw [e2] at hh
  dsimp only at hh
  split at hh
  case isFalse => exact hh.elim
  case isTrue hz =>
  refine ⟨F1, ds, xs, b1.sto.sub, datsOf_ok e1 r1, e2, fun J wk D0 hD0 => ?_⟩
  have hF0 : F1 D0 = none := by
    cases q : F1 D0 with
    | none => rfl
    | some u => rw [b1.sto.sub _ _ q] at hD0; cases hD0
  -- the wish at the comprehension's own start
  have hh1 : Hold K ad XR Wi (relN K ad H1) (loopC (turnC W C tg ifs elt s) xs [] m1) L m1 F1 H1 Q := by
    have hnone : ∀ p, H1 p = none → H p = none := fun p hp => by
      cases q : H p with
      | none => rfl
      | some o =>
        obtain ⟨o', z⟩ := b1.ext.there p o q
        rw [hp] at z; cases z
    cases hr : loopC (turnC W C tg ifs elt s) xs [] m1 with
    | ok ds' m2 =>
      rw [hr] at hh
      exact fun F' H' x ex st ⟨p, vs, e, e1, e2, e3, e4⟩ => hh F' H' x ex st ⟨p, vs, e, e1, hnone p e2, e3, e4⟩
    | exc => rw [hr] at hh; exact hh
    | bad => rw [hr] at hh; exact hh
  have hs1 := hs.mono b1.ext.sub
  refine lc_it (n := xs.length) (G := fun H => Sub F1 H) (Y := J.yld) ⟨wk.goes, wk.stops, fun _ _ _ _ _ _ h => h⟩
    (fun i H' => ∃ m' F' acc vs', CI K ad XR Wi (turnC W C tg ifs elt s) xs L m1 F1 H1 D0 Q i m' F' acc vs' H') ?_ ?_ ?_ ?_
  · have g := Grow.bare (o := .lst []) b1.sto.sub hD0
    exact ⟨m1, F1, [], [], g.ext, g.sto b1.sto, hF0, upd_same, .nil, Nat.le_refl _, hh1⟩
  · rintro i H' hi ⟨m', F', acc, vs', c⟩
    exact c.ext.sub.trans c.sto.sub
  · rintro i x H' H'' hi ⟨m', F', acc, vs', c⟩ hy
    obtain ⟨d, hd⟩ : ∃ d, xs[i]? = some d := ⟨_, List.getElem?_eq_getElem hi⟩
    obtain ⟨F2, g, rx⟩ := wk.yld i d F' H' x H'' hd c.ext.sub c.sto.sub hy
    have st2 : StoR K ad L m' F2 H'' := g.sto c.sto
    have ex2 : Ext L m1 F1 H1 m' F2 H'' := c.ext.trans g.ext
    have hdrop : xs.drop i = d :: xs.drop (i + 1) := by
      obtain ⟨h1, h2⟩ := List.getElem?_eq_some_iff.mp hd
      rw [List.drop_eq_getElem_cons h1, h2]
    have hold := c.hold
    rw [hdrop] at hold
    unfold loopC at hold
    have hD2 : H'' D0 = some (.lst vs') := g.grow _ _ c.hD
    have fD2 : F2 D0 = none := by
      rcases g.fresh D0 with q | q
      · rw [q]; exact c.fD
      · rw [c.hD] at q; cases q
    have nD : ∀ {mm : Sto} {FF HH : Hp}, Ext L m1 F1 H1 mm FF HH → ¬ Own L mm D0 := fun ex => ex.notOwn b1.sto hD0
    cases et : tgD tg d (wipeS s (slotsOf tg)) with
    | none =>
      exfalso
      simp only [turnC, et] at hold
      exact hold
    | some s' =>
    simp only [turnC, et] at hold
    have hsw : SltR K ad L F2 (wipeS s (slotsOf tg)) (wipe σ (slotsOf tg)) := (hs1.mono (c.ext.sub.trans g.sub)).wipe _
    refine ⟨L, F2, d, _, s', hsw, rx, g.low, et, fun σ2 hs2 hw2 => ⟨?_, ?_⟩⟩
    · rw [hw2 _ fun i hi => hi, wipe_idem]
    -- the tests
    refine ⟨s', L, m', F2, hs2, st2, Hold.noX (fun b m3 er F3 H3 z ex3 st3 rz => ?_) fun er => ?_⟩
    · subst rz
      rw [er] at hold
      simp only [R.bind_ok] at hold
      have ex13 := ex2.trans ex3
      have hD3 : H3 D0 = some (.lst vs') := ex3.keep _ _ hD2 (nD ex2)
      have fD3 : F3 D0 = none := by
        rcases ex3.fresh D0 with q | q
        · rw [q]; exact fD2
        · rw [hD2] at q; cases q
      cases b with
      | false =>
        refine iteF ?_
        simp only [Bool.false_eq_true, if_false, R.bind_ok] at hold
        exact ⟨m3, F3, acc, vs', ex13, st3, fD3, hD3, c.rep.mono (g.sub.trans ex3.sub), Nat.le_succ_of_le c.len, hold⟩
      | true =>
        refine iteT ?_
        simp only [if_true] at hold
        refine ⟨s', L, m3, F3, hs2.mono ex3.sub, st3, Hold.noX (fun v m4 er4 F4 H4 y ex4 st4 ry => ?_) fun er4 => ?_⟩
        · rw [er4] at hold
          simp only [R.bind_ok] at hold
          cases v with
          | loc k => exact hold.elim
          | dat yd =>
            simp only [R.bind_ok] at hold
            have ex14 := ex13.trans ex4
            have hD4 : H4 D0 = some (.lst vs') := ex4.keep _ _ hD3 (nD ex13)
            have fD4 : F4 D0 = none := by
              rcases ex4.fresh D0 with q | q
              · rw [q]; exact fD3
              · rw [hD3] at q; cases q
            have hlen := c.rep.len
            have hz' := le_of_sz hz
            have hcl := c.len
            refine ⟨vs', hD4, by rw [hlen]; omega, m4, F4, acc ++ [yd], vs' ++ [y], ex14.wr hD0, st4.wr (nD ex14) fD4, fD4, upd_same, (c.rep.mono ((g.sub.trans ex3.sub).trans ex4.sub)).app (.cons ry .nil), ?_, hold⟩
            rw [List.length_append]
            exact Nat.add_le_add hcl (Nat.le_refl 1)
        · rw [er4] at hold
          exact hold
    · rw [er] at hold
      exact hold
  · rintro H' ⟨m', F', acc, vs', c⟩
    have hold := c.hold
    rw [List.drop_length] at hold
    exact hold F' H' _ c.ext c.sto ⟨D0, vs', rfl, c.fD, hD0, c.hD, c.rep⟩
theorem pf_compN {tg : Tg} {ik : IK} {src : List Ex} {ifs : List Tx} {elt : Ex} {iter' elt' : Expr} {ifs' : List Expr} {scope : Scope} {own : List (Str × Nat)} (S : XO X N sc Wi lv) (hi : PI X tg' iter' (tI X.K ad XR Wi W C ik src)) (ok : BlkOk X.N X.env.scope scope own) (ho : own.map (·.2) = slotsOf tg)
    (hg : ∀ (s : Shared) (H : Hp) (C : Addr) (cl : List (Str × Addr)) (fp : List Addr), PG (X.blk s H scope (compEnvC scope cl C X.env) fp) tg' (gD X.K ad tg))
    (ht : ∀ (s : Shared) (H : Hp) (C0 : Addr) (cl : List (Str × Addr)) (fp : List Addr), PTs (X.blk s H scope (compEnvC scope cl C0 X.env) fp) ifs' (tIfs X.K ad XR (fun _ _ _ => False) W C ifs))
    (he : ∀ (s : Shared) (H : Hp) (C0 : Addr) (cl : List (Str × Addr)) (fp : List Addr), PE (X.blk s H scope (compEnvC scope cl C0 X.env) fp) elt' (tE X.K ad XR (fun _ _ _ => False) W C elt))
    (hs : ∀ x, foldedSetIterable iter' X.env x = pure x) : PE X (.ListComp elt' [⟨tg', iter', ifs', 0⟩] scope pos) (tN X.K ad XR Wi W C (.comp tg ik src ifs elt)) := by
  have h0 := pe_lc (pos := pos) S.calm (by rw [S.nm]; exact S.nd) hi ok hg ht he hs
  rw [ho] at h0
  exact h0.imp fun σ H Q ⟨s, L, m, F, h1, h2, h⟩ => comp_read h1 h2 h
end
end EV

set_option Elab.async false
set_option linter.all false
set_option maxRecDepth 100000
set_option maxHeartbeats 4000000
/-! EV, part J: all expressions at once. -/
namespace EV
open PySem PySem.Spec PyProof.Rows L2
section
variable {ad : Nat → Addr} {XR : Xc → Value → Option Addr → Hp → Hp → Prop} {W : Wd} {C : Cal} {n : Wn} {N : List Str} {lv : Nat}
theorem XO.blk {X : Cx} {sc : Scope} {Wi : XK} (S : XO X N sc Wi lv) (s : Shared) (H : Hp) (scope : Scope) (C0 : Addr) (cl : List (Str × Addr)) (fp : List Addr) :
    XO (X.blk s H scope (compEnvC scope cl C0 X.env) fp) N (inScope scope sc) (fun _ _ _ => False) lv where
  nm := S.nm
  es := by
    show relabel scope X.env = _
    unfold relabel inScope Env.kindOf
    rw [S.es]
  nd := S.nd
  calm := S.calm
  room := S.room
  grd := S.grd
  tk := fun u s' ⟨_, _, _, _, _, _, _, _, _, _, _, _, _, _, _, _, z⟩ => z.elim
theorem StB.blk {X : Cx} (s : Shared) (H : Hp) (scope : Scope) (C0 : Addr) (cl : List (Str × Addr)) (fp : List Addr) : StB (X.blk s H scope (compEnvC scope cl C0 X.env) fp) scope := by
  intro x h
  have keep : ∀ k : NameKind, k ≠ .free → scope.names.lookup x = some k → (relabel scope X.env).names.lookup x = some k := fun k hk hl => lookup_relS_keep (sc := X.env.scope) hk hl
  simp only [locB, Bool.or_eq_true] at h
  rcases h with h | h
  · have := keep .local (by decide) (isKind_of h)
    exact ⟨.inl this, .inr this⟩
  · have := keep .cell (by decide) (isKind_of h)
    refine ⟨.inr this, .inl ?_⟩
    show (scope.names.lookup x == some NameKind.cell) = true
    rw [isKind_of h]
    decide
theorem matEs_star : ∀ {es : List Ex} {sc : Scope} {es' : List Expr}, matEs W n N es sc es' = true → es'.all (fun e => !starB e) = true ∧ (es' = [] → es = [])
  | [], _, [], _ => ⟨rfl, fun _ => rfl⟩
  | [], _, _ :: _, h => by simp [matEs] at h
  | _ :: _, _, [], h => by simp [matEs] at h
  | e :: es, sc, e' :: es', h => by
    simp only [matEs, Bool.and_eq_true] at h
    refine ⟨?_, fun z => by cases z⟩
    rw [List.all_cons, h.1.1, (matEs_star h.2).1]
    rfl
theorem fnm_of {n : Wn} {k : Nat} {x : Str} (h : (match n.fnm[k]? with | some y => decide (y = x) | none => false) = true) : n.fnm[k]? = some x := by
  split at h
  · rename_i y e
    rw [e, of_decide_eq_true h]
  · cases h
theorem bad_slc {X : Cx} {e : Expr} {t : TE} (h : ∀ σ H Q, t σ H Q → False) : PE X e t := ⟨fun _ _ _ _ _ _ q => (h _ _ _ q).elim⟩
theorem bad_pw {X : Cx} {e : Expr} {t : TT} (h : ∀ σ H Q, t σ H Q → False) : PW X e t := ⟨fun _ _ _ _ _ _ _ q => (h _ _ _ q).elim⟩
theorem pts_imp {X : Cx} {es : List Expr} {t t' : TT} (h : PTs X es t) (i : ∀ σ H Q, t' σ H Q → t σ H Q) : PTs X es t' := ⟨fun pins s σ H Q I hw => h.run pins s σ H Q I (i σ H Q hw)⟩
theorem matE_star {e : Ex} {sc : Scope} {e' : Expr} (h : matE W n N e sc e' = true) : starB e' = false := by
  cases e' with
  | Starred x p =>
    exfalso
    cases e with
    | cst d => cases d <;> simp [matE] at h
    | slc k a es => cases k <;> simp [matE] at h
    | _ => simp [matE] at h
  | _ => rfl
theorem inv_rev {a : Ex} {sc : Scope} {e' : Expr} (h : matE W n N (.rev a) sc e' = true) : ∃ a' k p1 p2 p3 p, e' = .Subscript a' (.Slice none none (some (.UnaryOp .USub (.Constant (.int 1) k p1) p2)) p3) p ∧ matE W n N a sc a' = true := by
  unfold matE at h
  split at h <;> first | contradiction | skip
  cases ‹Ex.rev _ = Ex.rev _›
  exact ⟨_, _, _, _, _, _, rfl, h⟩
theorem inv_isi {a : Ex} {t : String} {sc : Scope} {e' : Expr} (h : matE W n N (.isi a t) sc e' = true) : ∃ x p1 a' y p2 p, e' = .Call (.Name x p1) [a', .Name y p2] [] p ∧ x = ("isinstance" : Str) ∧ n.bs.contains x = true ∧ glbB sc x = true ∧ matE W n N a sc a' = true ∧ tyNms.contains (t, y) = true ∧ n.bs.contains y = true ∧ glbB sc y = true := by
  unfold matE at h
  split at h <;> first | contradiction | skip
  cases ‹Ex.isi _ _ = Ex.isi _ _›
  simp only [Bool.and_eq_true, decide_eq_true_eq] at h
  obtain ⟨⟨⟨⟨⟨⟨h1, h2⟩, h3⟩, h4⟩, h5⟩, h6⟩, h7⟩ := h
  exact ⟨_, _, _, _, _, _, rfl, h1, h2, h3, h4, h5, h6, h7⟩
theorem len1 {l : List Expr} (h : l.length = 1) : ∃ a, l = [a] := by
  match l, h with
  | [a], _ => exact ⟨a, rfl⟩
theorem len2 {l : List Expr} (h : l.length = 2) : ∃ a b, l = [a, b] := by
  match l, h with
  | [a, b], _ => exact ⟨a, b, rfl⟩
theorem tup_of {e : Expr} (h : isTupE e = true) : ∃ es k p, e = .Tuple es k p := by
  cases e <;> first | exact ⟨_, _, _, rfl⟩ | cases h
theorem pi_all {X : Cx} {sc : Scope} {Wi : XK} {ik : IK} {src : List Ex} {tg' e' : Expr} (S : XO X N sc Wi lv) (G : GO X.K ad XR W C X.prog X.w X.mg X.base n lv) (h : matItH n sc ik e' (isTupE tg') = true) (h5 : matEs W n N src sc (itExprs ik e') = true)
    (ha : PA X (itExprs ik e') (tEs X.K ad XR Wi W C src)) (h1 : ∀ e', matEs W n N src sc [e'] = true → ∃ a, src = [a] ∧ PE X e' (tE X.K ad XR Wi W C a)) : PI X tg' e' (tI X.K ad XR Wi W C ik src) := by
  by_cases hik : ik = .seq
  · subst hik
    obtain ⟨a, rfl, he⟩ := h1 e' h5
    exact pi_seq he
  · cases e' with
    | Call f es kws p =>
      cases f with
      | Name x p1 =>
        cases kws with
        | nil =>
          have h' : (decide (x = itNm ik) && decide (es.length = itLen ik) && n.bs.contains x && glbB sc x && (isTupE tg' || decide (ik = .rng1) || decide (ik = .rng2))) = true := by
            cases ik <;> first | exact absurd rfl hik | exact h
          simp only [Bool.and_eq_true, decide_eq_true_eq] at h'
          obtain ⟨⟨⟨⟨g1, g2⟩, g3⟩, g4⟩, g5⟩ := h'
          have ha' : PA X es (tEs X.K ad XR Wi W C src) := by cases ik <;> first | exact absurd rfl hik | exact ha
          have hst : es.all (fun e => !starB e) = true := (matEs_star (by cases ik <;> first | exact absurd rfl hik | exact h5)).1
          have hg := S.gl g4
          have hm := G.bs _ g3
          subst g1
          cases ik with
          | seq => exact absurd rfl hik
          | rng1 =>
            obtain ⟨a, rfl⟩ := len1 g2
            simp only [List.all_cons, Bool.and_eq_true, Bool.not_eq_true', List.all_nil, and_true] at hst
            exact (pi_range1 hg hm ha' (star_each hst [] _)).imp fun σ H R h => rng1_read h
          | rng2 =>
            obtain ⟨a, b, rfl⟩ := len2 g2
            simp only [List.all_cons, Bool.and_eq_true, Bool.not_eq_true', List.all_nil, and_true] at hst
            exact (pi_range2 hg hm ha' (by rw [star_each hst.1, star_each hst.2]; rfl) (star_each hst.2 [] _)).imp fun σ H R h => rng2_read h
          | enum =>
            obtain ⟨a, rfl⟩ := len1 g2
            simp only [List.all_cons, Bool.and_eq_true, Bool.not_eq_true', List.all_nil, and_true] at hst
            obtain ⟨es, k, p, rfl⟩ := tup_of (by simpa using g5)
            exact (pi_enumA hg hm ha' (star_each hst [] _)).imp fun σ H R h => enum_read h
          | zip =>
            obtain ⟨a, b, rfl⟩ := len2 g2
            obtain ⟨es, k, p, rfl⟩ := tup_of (by simpa using g5)
            have hst2 : [b].all (fun e => !starB e) = true := by
              simp only [List.all_cons, Bool.and_eq_true] at hst ⊢
              exact hst.2
            simp only [List.all_cons, Bool.and_eq_true, Bool.not_eq_true', List.all_nil, and_true] at hst
            exact (RZ.pi_zipA hg hm ha' (star_each hst.1 _ _) (star_any hst2 _ _)).imp fun σ H R h => zip_read h
        | cons => cases ik <;> simp [matItH] at h hik
      | _ => cases ik <;> simp [matItH] at h hik
    | _ => cases ik <;> simp [matItH] at h hik
mutual
theorem snd_E : ∀ (e : Ex) (X : Cx) (sc : Scope) (Wi : XK), XO X N sc Wi lv → GO X.K ad XR W C X.prog X.w X.mg X.base n lv → ∀ e' : Expr, matE W n N e sc e' = true → PE X e' (tE X.K ad XR Wi W C e)
  | .var i, X, sc, Wi, S, G, e', h => by
    cases e' with
    | Name x p =>
      simp only [matE, Bool.and_eq_true] at h
      exact pf_var (S.at_ h.1.1) (S.vis h.1.2) h.2
    | _ => simp [matE] at h
  | .cst d, X, sc, Wi, S, G, e', h => by
    cases e' with
    | Constant c k p =>
      cases d with
      | non =>
        cases c with
        | none => exact pf_non
        | _ => simp [matE] at h
      | bl b =>
        cases c with
        | bool c =>
          have q : b = c := by simpa [matE] using h
          subst q
          exact pf_bl
        | _ => simp [matE] at h
      | int i =>
        cases c with
        | int j =>
          have q : i = j := by simpa [matE] using h
          subst q
          exact pf_int
        | _ => simp [matE] at h
      | str x =>
        cases c with
        | str y =>
          have q : x = y := by simpa [matE] using h
          subst q
          exact pf_str
        | _ => simp [matE] at h
      | _ => simp [matE] at h
    | _ => cases d <;> simp [matE] at h
  | .glo g, X, sc, Wi, S, G, e', h => by
    cases e' with
    | Name x p =>
      simp only [matE, Bool.and_eq_true] at h
      exact pf_glo G h.1.1 (S.gl h.1.2) h.2
    | _ => simp [matE] at h
  | .tup es, X, sc, Wi, S, G, e', h => by
    cases e' with
    | Tuple es' k p =>
      simp only [matE] at h
      exact pf_tup (snd_Es es X sc Wi S G es' h)
    | _ => simp [matE] at h
  | .lst es, X, sc, Wi, S, G, e', h => by
    cases e' with
    | List es' p =>
      simp only [matE] at h
      exact pf_lst (snd_Es es X sc Wi S G es' h)
    | _ => simp [matE] at h
  | .lsts fl es, X, sc, Wi, S, G, e', h => by
    cases e' with
    | List es' p =>
      simp only [matE] at h
      exact pf_lsts (snd_Ed fl es X sc Wi S G es' h)
    | _ => simp [matE] at h
  | .bin op a b, X, sc, Wi, S, G, e', h => by
    cases e' with
    | BinOp a' op' b' p =>
      simp only [matE, Bool.and_eq_true, decide_eq_true_eq] at h
      obtain ⟨⟨rfl, h1⟩, h2⟩ := h
      exact pf_bin (snd_E a X sc Wi S G a' h1) (snd_E b X sc Wi S G b' h2)
    | _ => simp [matE] at h
  | .neg a, X, sc, Wi, S, G, e', h => by
    cases e' with
    | UnaryOp op a' p =>
      cases op with
      | USub =>
        simp only [matE] at h
        exact pf_neg (snd_E a X sc Wi S G a' h)
      | _ => simp [matE] at h
    | _ => simp [matE] at h
  | .nt a, X, sc, Wi, S, G, e', h => by
    cases e' with
    | UnaryOp op a' p =>
      cases op with
      | Not =>
        simp only [matE] at h
        exact pf_nt (snd_E a X sc Wi S G a' h)
      | _ => simp [matE] at h
    | _ => simp [matE] at h
  | .cmp op a b, X, sc, Wi, S, G, e', h => by
    cases e' with
    | Compare a' ops bs p =>
      match ops, bs, h with
      | [op'], [b'], h =>
        simp only [matE, Bool.and_eq_true, decide_eq_true_eq, Bool.not_eq_true'] at h
        obtain ⟨⟨⟨rfl, h0⟩, h1⟩, h2⟩ := h
        exact pf_cmp S h0 (snd_E a X sc Wi S G a' h1) (snd_E b X sc Wi S G b' h2)
      | [], _, h => simp [matE] at h
      | _ :: _ :: _, _, h => simp [matE] at h
      | [_], [], h => simp [matE] at h
      | [_], _ :: _ :: _, h => simp [matE] at h
    | _ => simp [matE] at h
  | .chain op1 op2 a b c, X, sc, Wi, S, G, e', h => by
    cases e' with
    | Compare a' ops bs p =>
      match ops, bs, h with
      | [op1', op2'], [b', c'], h =>
        simp only [matE, Bool.and_eq_true, decide_eq_true_eq, Bool.not_eq_true'] at h
        obtain ⟨⟨⟨⟨⟨⟨rfl, rfl⟩, h0⟩, h00⟩, h1⟩, h2⟩, h3⟩ := h
        exact pf_chain S h00 (snd_E a X sc Wi S G a' h1) (snd_E b X sc Wi S G b' h2) (snd_E c X sc Wi S G c' h3)
      | [], _, h => simp [matE] at h
      | [_], _, h => simp [matE] at h
      | _ :: _ :: _ :: _, _, h => simp [matE] at h
      | [_, _], [], h => simp [matE] at h
      | [_, _], [_], h => simp [matE] at h
      | [_, _], _ :: _ :: _ :: _, h => simp [matE] at h
    | _ => simp [matE] at h
  | .andl es, X, sc, Wi, S, G, e', h => by
    cases e' with
    | BoolOp op es' p =>
      cases op with
      | And =>
        simp only [matE] at h
        exact snd_And es X sc Wi S G es' h p
      | Or => simp [matE] at h
    | _ => simp [matE] at h
  | .orl es, X, sc, Wi, S, G, e', h => by
    cases e' with
    | BoolOp op es' p =>
      cases op with
      | Or =>
        simp only [matE] at h
        exact snd_Or es X sc Wi S G es' h p
      | And => simp [matE] at h
    | _ => simp [matE] at h
  | .ite c a b, X, sc, Wi, S, G, e', h => by
    cases e' with
    | IfExp c' a' b' p =>
      simp only [matE, Bool.and_eq_true] at h
      exact pf_ite (snd_T c X sc Wi S G c' h.1.1) (snd_E a X sc Wi S G a' h.1.2) (snd_E b X sc Wi S G b' h.2)
    | _ => simp [matE] at h
  | .sub a i, X, sc, Wi, S, G, e', h => by
    cases e' with
    | Subscript a' i' p =>
      have h : (matE W n N a sc a' && matE W n N i sc i' && !sliceB i') = true := by simpa only [matE] using h
      simp only [Bool.and_eq_true, Bool.not_eq_true'] at h
      exact pf_sub (snd_E a X sc Wi S G a' h.1.1) (snd_E i X sc Wi S G i' h.1.2) h.2
    | _ => simp [matE] at h
  | .slc .both a [lo, hi], X, sc, Wi, S, G, e', h => by
    cases e' with
    | Subscript a' i' p =>
      cases i' with
      | Slice l u st p2 =>
        match l, u, st, h with
        | some lo', some hi', none, h =>
          simp only [matE, matEs, Bool.and_eq_true] at h
          exact pf_slc2 (snd_E a X sc Wi S G a' h.1) (snd_E lo X sc Wi S G lo' h.2.1.2) (snd_E hi X sc Wi S G hi' h.2.2.1.2)
        | none, _, _, h => simp [matE] at h
        | some _, none, _, h => simp [matE] at h
        | some _, some _, some _, h => simp [matE] at h
      | _ => simp [matE] at h
    | _ => simp [matE] at h
  | .slc .lo a [lo], X, sc, Wi, S, G, e', h => by
    cases e' with
    | Subscript a' i' p =>
      cases i' with
      | Slice l u st p2 =>
        match l, u, st, h with
        | some lo', none, none, h =>
          simp only [matE, matEs, Bool.and_eq_true] at h
          exact pf_slcL (snd_E a X sc Wi S G a' h.1) (snd_E lo X sc Wi S G lo' h.2.1.2)
        | none, _, _, h => simp [matE] at h
        | some _, some _, _, h => simp [matE] at h
        | some _, none, some _, h => simp [matE] at h
      | _ => simp [matE] at h
    | _ => simp [matE] at h
  | .slc .hi a [hi], X, sc, Wi, S, G, e', h => by
    cases e' with
    | Subscript a' i' p =>
      cases i' with
      | Slice l u st p2 =>
        match l, u, st, h with
        | none, some hi', none, h =>
          simp only [matE, matEs, Bool.and_eq_true] at h
          exact pf_slcH (snd_E a X sc Wi S G a' h.1) (snd_E hi X sc Wi S G hi' h.2.1.2)
        | some _, _, _, h => simp [matE] at h
        | none, none, _, h => simp [matE] at h
        | none, some _, some _, h => simp [matE] at h
      | _ => simp [matE] at h
    | _ => simp [matE] at h
  | .slc .no a [], X, sc, Wi, S, G, e', h => by
    cases e' with
    | Subscript a' i' p =>
      cases i' with
      | Slice l u st p2 =>
        match l, u, st, h with
        | none, none, none, h =>
          simp only [matE, Bool.and_eq_true] at h
          exact pf_slc0 (snd_E a X sc Wi S G a' h.1)
        | some _, _, _, h => simp [matE] at h
        | none, some _, _, h => simp [matE] at h
        | none, none, some _, h => simp [matE] at h
      | _ => simp [matE] at h
    | _ => simp [matE] at h
  | .slc .both _ [], _, _, _, _, _, _, _ => bad_slc (by rintro σ H Q ⟨s, L, m, F, _, _, h⟩; exact h)
  | .slc .both _ [_], _, _, _, _, _, _, _ => bad_slc (by rintro σ H Q ⟨s, L, m, F, _, _, h⟩; exact h)
  | .slc .both _ (_ :: _ :: _ :: _), _, _, _, _, _, _, _ => bad_slc (by rintro σ H Q ⟨s, L, m, F, _, _, h⟩; exact h)
  | .slc .lo _ [], _, _, _, _, _, _, _ => bad_slc (by rintro σ H Q ⟨s, L, m, F, _, _, h⟩; exact h)
  | .slc .lo _ (_ :: _ :: _), _, _, _, _, _, _, _ => bad_slc (by rintro σ H Q ⟨s, L, m, F, _, _, h⟩; exact h)
  | .slc .hi _ [], _, _, _, _, _, _, _ => bad_slc (by rintro σ H Q ⟨s, L, m, F, _, _, h⟩; exact h)
  | .slc .hi _ (_ :: _ :: _), _, _, _, _, _, _, _ => bad_slc (by rintro σ H Q ⟨s, L, m, F, _, _, h⟩; exact h)
  | .slc .no _ (_ :: _), _, _, _, _, _, _, _ => bad_slc (by rintro σ H Q ⟨s, L, m, F, _, _, h⟩; exact h)
  | .rev a, X, sc, Wi, S, G, e', h => by
    obtain ⟨a', k, p1, p2, p3, p, rfl, h'⟩ := inv_rev h
    exact pf_rev (snd_E a X sc Wi S G a' h')
  | .call k es, X, sc, Wi, S, G, e', h => by
    cases e' with
    | Call f es' kws p =>
      cases f with
      | Name x p1 =>
        cases kws with
        | nil =>
          simp only [matE, Bool.and_eq_true] at h
          obtain ⟨h1, h2⟩ := matEs_star h.2
          exact pf_call G S (fnm_of h.1.1.1) (S.gl h.1.1.2) h.1.2 (snd_Es es X sc Wi S G es' h.2) h1 h2
        | cons => simp [matE] at h
      | _ => simp [matE] at h
    | _ => simp [matE] at h
  | .blt b es, X, sc, Wi, S, G, e', h => by
    cases e' with
    | Call f es' kws p =>
      cases f with
      | Name x p1 =>
        cases kws with
        | nil =>
          simp only [matE, Bool.and_eq_true, decide_eq_true_eq] at h
          obtain ⟨⟨⟨⟨h1, h2⟩, h3⟩, h4⟩, h5⟩ := h
          cases es' with
          | nil => simp at h4
          | cons e1 es1 => exact pf_blt S h1 (G.bs _ h2) (S.gl h3) (snd_Es es X sc Wi S G _ h5) (matEs_star h5).1
        | cons => simp [matE] at h
      | _ => simp [matE] at h
    | _ => simp [matE] at h
  | .isi a t, X, sc, Wi, S, G, e', h => by
    obtain ⟨x, p1, a', y, p2, p, rfl, h1, h2, h3, h4, h5, h6, h7⟩ := inv_isi h
    exact pf_isi h1 (G.bs _ h2) (S.gl h3) h5 (G.bs _ h6) (S.gl h7) (snd_E a X sc Wi S G a' h4) (matE_star h4)
  | .comp tg ik src ifs elt, X, sc, Wi, S, G, e', h => by
    refine (?_ : PE X e' (tN X.K ad XR Wi W C (.comp tg ik src ifs elt))).imp fun σ H Q ⟨s, L, m, F, h1, h2, h⟩ => ⟨s, L, m, F, h1, h2, frz_hold h2 (by rw [ev_comp] at h; exact h)⟩
    cases e' with
    | ListComp elt' gs scope p =>
      match gs, h with
      | [⟨tg', iter', ifs', z⟩], h =>
        simp only [matE, Bool.and_eq_true, decide_eq_true_eq, Bool.not_eq_true'] at h
        obtain ⟨⟨⟨⟨⟨⟨⟨⟨rfl, h1⟩, h2⟩, h3⟩, h4⟩, h5⟩, h6⟩, h7⟩, h8⟩ := h
        exact pf_compN S (pi_all S G h4 h5 (snd_Es src X sc Wi S G _ h5) (snd_H src X sc Wi S G)) (by rw [S.nm, S.es]; exact blkOk_by h1) h2 (fun s H C0 cl fp => pg_d (S.blk s H scope C0 cl fp) (StB.blk s H scope C0 cl fp) tg tg' h3) (fun s H C0 cl fp => snd_Ifs ifs _ _ _ (S.blk s H scope C0 cl fp) G ifs' h7) (fun s H C0 cl fp => snd_E elt _ _ _ (S.blk s H scope C0 cl fp) G elt' h8) (set_fold h6 _)
      | [], h => simp [matE] at h
      | _ :: _ :: _, h => simp [matE] at h
    | _ => simp [matE] at h
theorem snd_Es : ∀ (es : List Ex) (X : Cx) (sc : Scope) (Wi : XK), XO X N sc Wi lv → GO X.K ad XR W C X.prog X.w X.mg X.base n lv → ∀ es' : List Expr, matEs W n N es sc es' = true → PA X es' (tEs X.K ad XR Wi W C es)
  | [], X, sc, Wi, S, G, es', h => by
    cases es' with
    | nil => exact pfs_nil
    | cons => simp [matEs] at h
  | e :: es, X, sc, Wi, S, G, es', h => by
    cases es' with
    | nil => simp [matEs] at h
    | cons e' es' =>
      simp only [matEs, Bool.and_eq_true, Bool.not_eq_true'] at h
      exact pfs_cons (snd_E e X sc Wi S G e' h.1.2) (snd_Es es X sc Wi S G es' h.2) h.1.1
theorem snd_Ed : ∀ (fl : List Bool) (es : List Ex) (X : Cx) (sc : Scope) (Wi : XK), XO X N sc Wi lv → GO X.K ad XR W C X.prog X.w X.mg X.base n lv → ∀ es' : List Expr, matEd W n N fl es sc es' = true → PA X es' (tEd X.K ad XR Wi W C fl es)
  | [], [], X, sc, Wi, S, G, es', h => by
    cases es' with
    | nil => exact pfd_nil
    | cons => simp [matEd] at h
  | true :: fl, e :: es, X, sc, Wi, S, G, es', h => by
    cases es' with
    | nil => simp [matEd] at h
    | cons e' es' =>
      cases e' with
      | Starred e1 p =>
        simp only [matEd, Bool.and_eq_true] at h
        exact pfd_star (snd_E e X sc Wi S G e1 h.1) (snd_Ed fl es X sc Wi S G es' h.2)
      | _ => simp [matEd] at h
  | false :: fl, e :: es, X, sc, Wi, S, G, es', h => by
    cases es' with
    | nil => simp [matEd] at h
    | cons e' es' =>
      have h' : (!starB e' && matE W n N e sc e' && matEd W n N fl es sc es') = true := by simpa only [matEd] using h
      simp only [Bool.and_eq_true, Bool.not_eq_true'] at h'
      exact pfd_cons (snd_E e X sc Wi S G e' h'.1.2) (snd_Ed fl es X sc Wi S G es' h'.2) h'.1.1
  | [], _ :: _, X, sc, Wi, S, G, es', h => by simp [matEd] at h
  | true :: _, [], X, sc, Wi, S, G, es', h => by simp [matEd] at h
  | false :: _, [], X, sc, Wi, S, G, es', h => by simp [matEd] at h
theorem snd_And : ∀ (es : List Ex) (X : Cx) (sc : Scope) (Wi : XK), XO X N sc Wi lv → GO X.K ad XR W C X.prog X.w X.mg X.base n lv → ∀ es' : List Expr, matEs W n N es sc es' = true → ∀ pos, PE X (.BoolOp .And es' pos) (tE X.K ad XR Wi W C (.andl es))
  | [], X, sc, Wi, S, G, es', h, pos => bad_slc (by rintro σ H Q ⟨s, L, m, F, _, _, h⟩; exact h)
  | [e], X, sc, Wi, S, G, es', h, pos => by
    match es', h with
    | [e'], h =>
      simp only [matEs, Bool.and_eq_true] at h
      exact pf_one (op := .And) (snd_E e X sc Wi S G e' h.1.2)
    | [], h => simp [matEs] at h
    | _ :: _ :: _, h => simp [matEs] at h
  | e :: f :: es, X, sc, Wi, S, G, es', h, pos => by
    match es', h with
    | e' :: f' :: es', h =>
      have h2 : matEs W n N (f :: es) sc (f' :: es') = true := by
        simp only [matEs, Bool.and_eq_true] at h ⊢
        exact h.2
      have h1 : matE W n N e sc e' = true := by
        simp only [matEs, Bool.and_eq_true] at h
        exact h.1.2
      exact pf_and (snd_E e X sc Wi S G e' h1) (snd_And (f :: es) X sc Wi S G (f' :: es') h2 pos)
    | [], h => simp [matEs] at h
    | [_], h => simp [matEs] at h
theorem snd_Or : ∀ (es : List Ex) (X : Cx) (sc : Scope) (Wi : XK), XO X N sc Wi lv → GO X.K ad XR W C X.prog X.w X.mg X.base n lv → ∀ es' : List Expr, matEs W n N es sc es' = true → ∀ pos, PE X (.BoolOp .Or es' pos) (tE X.K ad XR Wi W C (.orl es))
  | [], X, sc, Wi, S, G, es', h, pos => bad_slc (by rintro σ H Q ⟨s, L, m, F, _, _, h⟩; exact h)
  | [e], X, sc, Wi, S, G, es', h, pos => by
    match es', h with
    | [e'], h =>
      simp only [matEs, Bool.and_eq_true] at h
      exact pf_one (op := .Or) (snd_E e X sc Wi S G e' h.1.2)
    | [], h => simp [matEs] at h
    | _ :: _ :: _, h => simp [matEs] at h
  | e :: f :: es, X, sc, Wi, S, G, es', h, pos => by
    match es', h with
    | e' :: f' :: es', h =>
      have h2 : matEs W n N (f :: es) sc (f' :: es') = true := by
        simp only [matEs, Bool.and_eq_true] at h ⊢
        exact h.2
      have h1 : matE W n N e sc e' = true := by
        simp only [matEs, Bool.and_eq_true] at h
        exact h.1.2
      exact pf_or (snd_E e X sc Wi S G e' h1) (snd_Or (f :: es) X sc Wi S G (f' :: es') h2 pos)
    | [], h => simp [matEs] at h
    | [_], h => simp [matEs] at h
theorem snd_H : ∀ (src : List Ex) (X : Cx) (sc : Scope) (Wi : XK), XO X N sc Wi lv → GO X.K ad XR W C X.prog X.w X.mg X.base n lv → ∀ e' : Expr, matEs W n N src sc [e'] = true → ∃ a, src = [a] ∧ PE X e' (tE X.K ad XR Wi W C a)
  | [a], X, sc, Wi, S, G, e', h => by
    simp only [matEs, Bool.and_eq_true] at h
    exact ⟨a, rfl, snd_E a X sc Wi S G e' h.1.2⟩
  | [], X, sc, Wi, S, G, e', h => by simp [matEs] at h
  | _ :: _ :: _, X, sc, Wi, S, G, e', h => by simp [matEs] at h
theorem snd_Ifs : ∀ (ts : List Tx) (X : Cx) (sc : Scope) (Wi : XK), XO X N sc Wi lv → GO X.K ad XR W C X.prog X.w X.mg X.base n lv → ∀ es' : List Expr, matIfs W n N ts sc es' = true → PTs X es' (tIfs X.K ad XR Wi W C ts)
  | [], X, sc, Wi, S, G, es', h => by
    cases es' with
    | nil => exact pts_imp pts_nil fun σ H Q ⟨s, L, m, F, hs, hm, h⟩ => h.now (a := true) hm (.refl hm.sub) rfl
    | cons => simp [matIfs] at h
  | [t], X, sc, Wi, S, G, es', h => by
    match es', h with
    | [c'], h =>
      simp only [matIfs] at h
      exact pts_imp (pts_one (snd_T t X sc Wi S G c' h)) fun σ H Q ⟨s, L, m, F, hs, hm, h⟩ => ⟨s, L, m, F, hs, hm, h⟩
    | [], h => simp [matIfs] at h
    | _ :: _ :: _, h => simp [matIfs] at h
  | _ :: _ :: _, X, sc, Wi, S, G, es', h => by simp [matIfs] at h
theorem snd_T : ∀ (t : Tx) (X : Cx) (sc : Scope) (Wi : XK), XO X N sc Wi lv → GO X.K ad XR W C X.prog X.w X.mg X.base n lv → ∀ e' : Expr, matT W n N t sc e' = true → PT X e' (tT X.K ad XR Wi W C t)
  | .cmp op a b, X, sc, Wi, S, G, e', h => by
    cases e' with
    | Compare a' ops bs p =>
      match ops, bs, h with
      | [op'], [b'], h =>
        simp only [matT, Bool.and_eq_true, decide_eq_true_eq, Bool.not_eq_true'] at h
        obtain ⟨⟨⟨rfl, h0⟩, h1⟩, h2⟩ := h
        exact pt_cmpD S h0 (snd_E a X sc Wi S G a' h1) (snd_E b X sc Wi S G b' h2)
      | [], _, h => simp [matT] at h
      | _ :: _ :: _, _, h => simp [matT] at h
      | [_], [], h => simp [matT] at h
      | [_], _ :: _ :: _, h => simp [matT] at h
    | _ => simp [matT] at h
  | .chain op1 op2 a b c, X, sc, Wi, S, G, e', h => by
    cases e' with
    | Compare a' ops bs p =>
      match ops, bs, h with
      | [op1', op2'], [b', c'], h =>
        simp only [matT, Bool.and_eq_true, decide_eq_true_eq, Bool.not_eq_true'] at h
        obtain ⟨⟨⟨⟨⟨⟨rfl, rfl⟩, h0⟩, h00⟩, h1⟩, h2⟩, h3⟩ := h
        exact pt_chainD S h00 (snd_E a X sc Wi S G a' h1) (snd_E b X sc Wi S G b' h2) (snd_E c X sc Wi S G c' h3)
      | [], _, h => simp [matT] at h
      | [_], _, h => simp [matT] at h
      | _ :: _ :: _ :: _, _, h => simp [matT] at h
      | [_, _], [], h => simp [matT] at h
      | [_, _], [_], h => simp [matT] at h
      | [_, _], _ :: _ :: _ :: _, h => simp [matT] at h
    | _ => simp [matT] at h
  | .val e, X, sc, Wi, S, G, e', h => by
    simp only [matT, Bool.and_eq_true] at h
    exact pt_plain (snd_E e X sc Wi S G e' h.2) h.1
  | .nt t, X, sc, Wi, S, G, e', h => by
    cases e' with
    | UnaryOp op a' p =>
      cases op with
      | Not =>
        simp only [matT] at h
        exact pt_notD (snd_T t X sc Wi S G a' h)
      | _ => simp [matT] at h
    | _ => simp [matT] at h
  | .andl ts, X, sc, Wi, S, G, e', h => by
    cases e' with
    | BoolOp op es' p =>
      cases op with
      | And =>
        simp only [matT] at h
        exact (snd_TAnd ts X sc Wi S G es' h p).pt
      | Or => simp [matT] at h
    | _ => simp [matT] at h
  | .orl ts, X, sc, Wi, S, G, e', h => by
    cases e' with
    | BoolOp op es' p =>
      cases op with
      | Or =>
        simp only [matT] at h
        exact (snd_TOr ts X sc Wi S G es' h p).pt
      | And => simp [matT] at h
    | _ => simp [matT] at h
theorem snd_TAnd : ∀ (ts : List Tx) (X : Cx) (sc : Scope) (Wi : XK), XO X N sc Wi lv → GO X.K ad XR W C X.prog X.w X.mg X.base n lv → ∀ es' : List Expr, matTs W n N ts sc es' = true → ∀ pos, PW X (.BoolOp .And es' pos) (tT X.K ad XR Wi W C (.andl ts))
  | [], X, sc, Wi, S, G, es', h, pos => bad_pw (by rintro σ H Q ⟨s, L, m, F, _, _, h⟩; exact h)
  | [t], X, sc, Wi, S, G, es', h, pos => by
    match es', h with
    | [e'], h =>
      simp only [matTs, Bool.and_eq_true] at h
      exact pw_oneAnd (snd_T t X sc Wi S G e' h.1)
    | [], h => simp [matTs] at h
    | _ :: _ :: _, h => simp [matTs] at h
  | t :: u :: ts, X, sc, Wi, S, G, es', h, pos => by
    match es', h with
    | e' :: f' :: es', h =>
      have h2 : matTs W n N (u :: ts) sc (f' :: es') = true := by
        simp only [matTs, Bool.and_eq_true] at h ⊢
        exact h.2
      have h1 : matT W n N t sc e' = true := by
        simp only [matTs, Bool.and_eq_true] at h
        exact h.1
      exact pw_moreAnd (snd_T t X sc Wi S G e' h1) (snd_TAnd (u :: ts) X sc Wi S G (f' :: es') h2 pos)
    | [], h => simp [matTs] at h
    | [_], h => simp [matTs] at h
theorem snd_TOr : ∀ (ts : List Tx) (X : Cx) (sc : Scope) (Wi : XK), XO X N sc Wi lv → GO X.K ad XR W C X.prog X.w X.mg X.base n lv → ∀ es' : List Expr, matTs W n N ts sc es' = true → ∀ pos, PW X (.BoolOp .Or es' pos) (tT X.K ad XR Wi W C (.orl ts))
  | [], X, sc, Wi, S, G, es', h, pos => bad_pw (by rintro σ H Q ⟨s, L, m, F, _, _, h⟩; exact h)
  | [t], X, sc, Wi, S, G, es', h, pos => by
    match es', h with
    | [e'], h =>
      simp only [matTs, Bool.and_eq_true] at h
      exact pw_oneOr (snd_T t X sc Wi S G e' h.1)
    | [], h => simp [matTs] at h
    | _ :: _ :: _, h => simp [matTs] at h
  | t :: u :: ts, X, sc, Wi, S, G, es', h, pos => by
    match es', h with
    | e' :: f' :: es', h =>
      have h2 : matTs W n N (u :: ts) sc (f' :: es') = true := by
        simp only [matTs, Bool.and_eq_true] at h ⊢
        exact h.2
      have h1 : matT W n N t sc e' = true := by
        simp only [matTs, Bool.and_eq_true] at h
        exact h.1
      exact pw_moreOr (snd_T t X sc Wi S G e' h1) (snd_TOr (u :: ts) X sc Wi S G (f' :: es') h2 pos)
    | [], h => simp [matTs] at h
    | [_], h => simp [matTs] at h
end
end
end EV

set_option Elab.async false
set_option linter.all false
set_option maxRecDepth 100000
set_option maxHeartbeats 4000000
/-! EV, part K: statements: what they do to the state. -/
namespace EV
open PySem PySem.Spec PyProof.Rows L2
/-- the objects of the def's own cells -/
def OwnC (b : Nat) (L : List Addr) (m : Sto) (a : Addr) : Prop := ∃ i, b ≤ i ∧ live m i ∧ L[i]? = some a
/-- from one state of a def's body to a later one; b: the callers' part of the store -/
structure ExtS (b : Nat) (L : List Addr) (m : Sto) (F H : Hp) (L' : List Addr) (m' : Sto) (F' H' : Hp) : Prop where
  sub : Sub F F'
  keep : ∀ a o, H a = some o → ¬ Own L m a → H' a = some o
  base : ∀ i, i < b → L'[i]? = L[i]? ∧ (live m' i ↔ live m i)
  len : m'.length = m.length
  fresh : ∀ a, F' a = F a ∨ H a = none ∨ OwnC b L m a
  there : ∀ a o, H a = some o → ∃ o', H' a = some o'
  ownC : ∀ a, OwnC b L' m' a → OwnC b L m a ∨ H a = none
section
variable {K : PySem.W.Frag} {ad : Nat → Addr} {XR : Xc → Value → Option Addr → Hp → Hp → Prop} {Wi : XK} {b : Nat} {L L1 L2' : List Addr} {m m1 m2 : Sto} {F F1 F2 H H1 H2 : Hp}
theorem OwnC.own {a : Addr} (h : OwnC b L m a) : Own L m a := let ⟨i, _, l, e⟩ := h; ⟨i, l, e⟩
theorem ExtS.ownA (e : ExtS b L m F H L1 m1 F1 H1) (a : Addr) (h : Own L1 m1 a) : Own L m a ∨ H a = none := by
  obtain ⟨i, l, q⟩ := h
  by_cases hi : i < b
  · obtain ⟨e1, e2⟩ := e.base i hi
    exact .inl ⟨i, e2.mp l, by rw [← e1]; exact q⟩
  · rcases e.ownC a ⟨i, by omega, l, q⟩ with z | z
    · exact .inl z.own
    · exact .inr z
theorem ExtS.refl : ExtS b L m F H L m F H := ⟨Sub.refl _, fun _ _ e _ => e, fun _ _ => ⟨rfl, Iff.rfl⟩, rfl, fun _ => .inl rfl, fun _ o e => ⟨o, e⟩, fun _ h => .inl h⟩
theorem ExtS.trans (e : ExtS b L m F H L1 m1 F1 H1) (f : ExtS b L1 m1 F1 H1 L2' m2 F2 H2) : ExtS b L m F H L2' m2 F2 H2 where
  sub := e.sub.trans f.sub
  keep := fun a o h n => f.keep a o (e.keep a o h n) fun q => by
    rcases e.ownA a q with z | z
    · exact n z
    · rw [h] at z; cases z
  base := fun i hi => ⟨(f.base i hi).1.trans (e.base i hi).1, (f.base i hi).2.trans (e.base i hi).2⟩
  len := f.len.trans e.len
  fresh := fun a => by
    have none_of : H1 a = none → H a = none := fun h => by
      cases p : H a with
      | none => rfl
      | some o =>
        obtain ⟨o', z⟩ := e.there a o p
        rw [z] at h; cases h
    rcases f.fresh a with q | q | q
    · rcases e.fresh a with p | p | p
      · exact .inl (q.trans p)
      · exact .inr (.inl p)
      · exact .inr (.inr p)
    · exact .inr (.inl (none_of q))
    · rcases e.ownC a q with z | z
      · exact .inr (.inr z)
      · exact .inr (.inl z)
  there := fun a o h => by
    obtain ⟨o', z⟩ := e.there a o h
    exact f.there a o' z
  ownC := fun a h => by
    rcases f.ownC a h with z | z
    · exact e.ownC a z
    · right
      cases p : H a with
      | none => rfl
      | some o =>
        obtain ⟨o', q⟩ := e.there a o p
        rw [q] at z; cases z
theorem Ext.s (e : Ext L m F H m1 F1 H1) : ExtS b L m F H L m1 F1 H1 where
  sub := e.sub
  keep := e.keep
  base := fun i _ => ⟨rfl, e.own i⟩
  len := e.len
  fresh := fun a => (e.fresh a).imp id .inl
  there := e.there
  ownC := fun a ⟨i, hi, l, q⟩ => .inl ⟨i, hi, (e.own i).mp l, q⟩
variable (K ad) in
/-- what is handed back -/
def relO (L : List Addr) (H0 F' H' : Hp) (r : RV) (x : V) : Prop := relR K ad L H0 F' H' r x
variable (K ad XR Wi) in
def HoldS (r : R Out) (b : Nat) (L : List Addr) (m : Sto) (F H : Hp) (D : Ends) : Prop :=
  match r with
  | .ok (.nx s') m' => ∀ L' F' H' σ', ExtS b L m F H L' m' F' H' → StoR K ad L' m' F' H' → SltR K ad L' F' s' σ' → D.nx σ' H'
  | .ok (.brk s') m' => ∀ L' F' H' σ', ExtS b L m F H L' m' F' H' → StoR K ad L' m' F' H' → SltR K ad L' F' s' σ' → D.bk σ' H'
  | .ok (.ctn s') m' => ∀ L' F' H' σ', ExtS b L m F H L' m' F' H' → StoR K ad L' m' F' H' → SltR K ad L' F' s' σ' → D.ct σ' H'
  | .ok (.ret v) m' => ∀ L' F' H' x, ExtS b L m F H L' m' F' H' → StoR K ad L' m' F' H' → relR K ad L' H F' H' v x → D.rt x H'
  | .exc xc m' => ∀ L' F' H' cls d, ExtS b L m F H L' m' F' H' → StoR K ad L' m' F' H' → XR xc cls d F' H' → Wi cls d H'
  | .bad => False
theorem ExtS.none (e : ExtS b L m F H L1 m1 F1 H1) {a : Addr} (h : H1 a = Option.none) : H a = Option.none := by
  cases p : H a with
  | none => rfl
  | some o =>
    obtain ⟨o', z⟩ := e.there a o p
    rw [z] at h; cases h
theorem relR.up {L' : List Addr} {F' H' : Hp} {v : RV} {x : V} (hn : ∀ a, H1 a = Option.none → H a = Option.none) (h : relR K ad L' H1 F' H' v x) : relR K ad L' H F' H' v x := by
  cases v with
  | vl v => exact h
  | new ds =>
    obtain ⟨a, vs, e, e1, e2, e3, e4⟩ := h
    exact ⟨a, vs, e, e1, hn a e2, e3, e4⟩
theorem HoldS.step {r : R Out} {D : Ends} (e : ExtS b L m F H L1 m1 F1 H1) (h : HoldS K ad XR Wi r b L m F H D) : HoldS K ad XR Wi r b L1 m1 F1 H1 D := by
  cases r with
  | ok o m' =>
    cases o with
    | nx s' => exact fun L' F' H' σ' e' => h L' F' H' σ' (e.trans e')
    | brk s' => exact fun L' F' H' σ' e' => h L' F' H' σ' (e.trans e')
    | ctn s' => exact fun L' F' H' σ' e' => h L' F' H' σ' (e.trans e')
    | ret v => exact fun L' F' H' x e' st r => h L' F' H' x (e.trans e') st (relR.up (fun a q => e.none q) r)
  | exc x m' => exact fun L' F' H' c d e' => h L' F' H' c d (e.trans e')
  | bad => exact h
/-- an expression's part of a statement -/
theorem HoldS.bh {α δ : Type} (rel1 : Hp → Hp → α → δ → Prop) {r : R α} {f : α → Sto → R Out} {D : Ends} (h : HoldS K ad XR Wi (r.bind f) b L m F H D) :
    Hold K ad XR Wi rel1 r L m F H fun x H1 => ∃ a m1 F1, r = .ok a m1 ∧ Ext L m F H m1 F1 H1 ∧ StoR K ad L m1 F1 H1 ∧ rel1 F1 H1 a x ∧ HoldS K ad XR Wi (f a m1) b L m1 F1 H1 D := by
  cases r with
  | ok a m' => exact fun F' H' x e s r => ⟨a, m', F', rfl, e, s, r, HoldS.step e.s h⟩
  | exc x m' => exact fun F' H' c d e s r => h L F' H' c d e.s s r
  | bad => exact h
end
section
variable (K : PySem.W.Frag) (ad : Nat → Addr) (XR : Xc → Value → Option Addr → Hp → Hp → Prop) (Wi : XK) (W : Wd) (C : Cal)
def tS (b : Nat) (x : EV.St) : TS := fun D σ H => ∃ s L m F, SltR K ad L F s σ ∧ StoR K ad L m F H ∧ b ≤ m.length ∧ HoldS K ad XR Wi (exS W C b x s m) b L m F H D
def tSs (b : Nat) (x : List EV.St) : TS := fun D σ H => ∃ s L m F, SltR K ad L F s σ ∧ StoR K ad L m F H ∧ b ≤ m.length ∧ HoldS K ad XR Wi (exs W C b x s m) b L m F H D
end
theorem _root_.L2.PS.imp {X : Cx} {e : Stmt} {t t' : TS} (h : PS X e t) (i : ∀ D σ H, t' D σ H → t D σ H) : PS X e t' := ⟨fun pins s σ H D I hw => h.run pins s σ H D I (i D σ H hw)⟩
theorem _root_.L2.PSs.imp {X : Cx} {e : List Stmt} {t t' : TS} (h : PSs X e t) (i : ∀ D σ H, t' D σ H → t D σ H) : PSs X e t' := ⟨fun pins s σ H D I hw => h.run pins s σ H D I (i D σ H hw)⟩
section
variable {K : PySem.W.Frag} {ad : Nat → Addr} {XR : Xc → Value → Option Addr → Hp → Hp → Prop} {Wi : XK} {W : Wd} {C : Cal} {σ : L2.St} {H : Hp} {s : Slots} {L : List Addr} {m : Sto} {F : Hp} {b : Nat} {Dz : Ends}
variable {X : Cx} {N : List Str} {sc : Scope} {lv : Nat} {n : Wn} {pos p2 : Pos} {e a : Ex} {t0 : Tx} {a' b' c' tg' : Expr}
theorem tSb {β : Type} {f : Vl → Sto → R Out} (hs : SltR K ad L F s σ) (hm : StoR K ad L m F H) (h : HoldS K ad XR Wi ((ev W C e s m).bind f) b L m F H Dz) :
    tE K ad XR Wi W C e σ H fun x H1 => ∃ v m1 F1, ev W C e s m = .ok v m1 ∧ Ext L m F H m1 F1 H1 ∧ StoR K ad L m1 F1 H1 ∧ VlR K ad L F1 v x ∧ HoldS K ad XR Wi (f v m1) b L m1 F1 H1 Dz := ⟨s, L, m, F, hs, hm, h.bh (relV K ad L)⟩
theorem tSbs {f : List Vl → Sto → R Out} {es : List Ex} (hs : SltR K ad L F s σ) (hm : StoR K ad L m F H) (h : HoldS K ad XR Wi ((evs W C es s m).bind f) b L m F H Dz) :
    tEs K ad XR Wi W C es σ H fun x H1 => ∃ v m1 F1, evs W C es s m = .ok v m1 ∧ Ext L m F H m1 F1 H1 ∧ StoR K ad L m1 F1 H1 ∧ VlRs K ad L F1 v x ∧ HoldS K ad XR Wi (f v m1) b L m1 F1 H1 Dz := ⟨s, L, m, F, hs, hm, h.bh (relVs K ad L)⟩
theorem tSbt {f : Bool → Sto → R Out} (hs : SltR K ad L F s σ) (hm : StoR K ad L m F H) (h : HoldS K ad XR Wi ((evT W C t0 s m).bind f) b L m F H Dz) :
    tT K ad XR Wi W C t0 σ H fun x H1 => ∃ v m1 F1, evT W C t0 s m = .ok v m1 ∧ Ext L m F H m1 F1 H1 ∧ StoR K ad L m1 F1 H1 ∧ v = x ∧ HoldS K ad XR Wi (f v m1) b L m1 F1 H1 Dz := ⟨s, L, m, F, hs, hm, h.bh relB⟩
theorem tSbn {f : List D → Sto → R Out} {D0 : Ends} (hs : SltR K ad L F s σ) (hm : StoR K ad L m F H) (h : HoldS K ad XR Wi ((evN W C e s m).bind f) b L m F H D0) :
    tN K ad XR Wi W C e σ H fun x H1 => ∃ v m1 F1, evN W C e s m = .ok v m1 ∧ Ext L m F H m1 F1 H1 ∧ StoR K ad L m1 F1 H1 ∧ relN K ad H F1 H1 v x ∧ HoldS K ad XR Wi (f v m1) b L m1 F1 H1 D0 := ⟨s, L, m, F, hs, hm, h.bh (relN K ad H)⟩
/-! ### blocks -/
theorem sf_nil : PSs X [] (tSs X.K ad XR Wi W C b []) := pss_nil.imp fun D σ H ⟨s, L, m, F, hs, hm, _, h⟩ => h L F H σ .refl hm hs
theorem sf_cons {x : EV.St} {r : List EV.St} {x' : Stmt} {r' : List Stmt} (h1 : PS X x' (tS X.K ad XR Wi W C b x)) (h2 : PSs X r' (tSs X.K ad XR Wi W C b r)) : PSs X (x' :: r') (tSs X.K ad XR Wi W C b (x :: r)) := by
  refine (pss_cons h1 h2).imp fun D σ H ⟨s, L, m, F, hs, hm, hb, h⟩ => ?_
  refine ⟨s, L, m, F, hs, hm, hb, ?_⟩
  simp only [exs] at h
  cases q : exS W C b x s m with
  | ok o m1 =>
    rw [q] at h
    simp only [R.bind_ok] at h
    cases o with
    | nx s1 => exact fun L' F' H' σ' e st sl => ⟨s1, L', m1, F', sl, st, by rw [e.len]; exact hb, HoldS.step e h⟩
    | ret v => exact h
    | brk s1 => exact h
    | ctn s1 => exact h
  | exc => rw [q] at h; exact h
  | bad => rw [q] at h; exact h
theorem sf_never {x' : Stmt} : PS X x' (tS X.K ad XR Wi W C b .never) := ps_never.imp fun D σ H ⟨s, L, m, F, hs, hm, _, h⟩ => h
theorem sf_pass : PS X (.Pass pos) (tS X.K ad XR Wi W C b .pas) := ps_pass.imp fun D σ H ⟨s, L, m, F, hs, hm, _, h⟩ => h L F H σ .refl hm hs
theorem sf_brk : PS X (.Break pos) (tS X.K ad XR Wi W C b .brk) := ps_break.imp fun D σ H ⟨s, L, m, F, hs, hm, _, h⟩ => h L F H σ .refl hm hs
theorem sf_ctn : PS X (.Continue pos) (tS X.K ad XR Wi W C b .ctn) := ps_continue.imp fun D σ H ⟨s, L, m, F, hs, hm, _, h⟩ => h L F H σ .refl hm hs
theorem sf_ret (he : PE X a' (tE X.K ad XR Wi W C e)) : PS X (.Return (some a') pos) (tS X.K ad XR Wi W C b (.ret e)) := by
  refine (ps_ret he).imp fun D σ H ⟨s, L, m, F, hs, hm, _, h⟩ => ?_
  simp only [exS] at h
  exact (tSb (β := Unit) hs hm h).mono fun x H1 ⟨v, m1, F1, _, ex, st, r, hh⟩ => hh L F1 H1 x .refl st r
theorem sf_retn : PS X (.Return none pos) (tS X.K ad XR Wi W C b .retn) := ps_retN.imp fun D σ H ⟨s, L, m, F, hs, hm, _, h⟩ => h L F H .non .refl hm .non
theorem sf_retf (he : PE X a' (tN X.K ad XR Wi W C e)) : PS X (.Return (some a') pos) (tS X.K ad XR Wi W C b (.retf e)) := by
  refine (ps_ret he).imp fun D0 σ H ⟨s, L, m, F, hs, hm, _, h⟩ => ?_
  simp only [exS] at h
  refine ⟨s, L, m, F, hs, hm, ?_⟩
  cases q : evN W C e s m with
  | ok ds m1 =>
    rw [q] at h
    exact fun F' H' x ex st r => h L F' H' x ex.s st r
  | exc => rw [q] at h; exact fun F' H' c d ex st r => h L F' H' c d ex.s st r
  | bad => rw [q] at h; exact h
theorem sf_exp (he : PE X a' (tE X.K ad XR Wi W C e)) (hsw : swapsWith a' none pos.line X.env = pure false) : PS X (.Expr a' pos) (tS X.K ad XR Wi W C b (.exp e)) := by
  refine (ps_expr he hsw).imp fun D σ H ⟨s, L, m, F, hs, hm, _, h⟩ => ?_
  simp only [exS] at h
  exact (tSb (β := Unit) hs hm h).mono fun x H1 ⟨v, m1, F1, _, ex, st, r, hh⟩ => hh L F1 H1 σ .refl st (hs.mono ex.sub)
/-- name = e, by the rule at hand -/
theorem set_read {i : Nat} {D : Ends} (h : tS K ad XR Wi W C b (.set (.nm i) e) D σ H) : tAsg (tE K ad XR Wi W C e) (gName i) D σ H := by
  obtain ⟨s, L, m, F, hs, hm, _, h⟩ := h
  simp only [exS] at h
  refine (tSb (β := Unit) hs hm h).mono fun x H1 ⟨v, m1, F1, _, ex, st, r, hh⟩ => ?_
  split at hh
  · rename_i hi
    exact hh L F1 H1 _ .refl st ((hs.mono ex.sub).set hi r)
  · exact hh.elim
theorem setT_read {ts : List Tg} {D : Ends} (h : tS K ad XR Wi W C b (.set (.tp ts) e) D σ H) : tAsg (tE K ad XR Wi W C e) (gD K ad (.tp ts)) D σ H := by
  obtain ⟨s, L, m, F, hs, hm, _, h⟩ := h
  simp only [exS] at h
  refine (tSb (β := Unit) hs hm h).mono fun x H1 ⟨v, m1, F1, _, ex, st, r, hh⟩ => ?_
  cases v with
  | loc k => exact hh.elim
  | dat d =>
    dsimp only at hh
    cases et : tgD (.tp ts) d s with
    | none => rw [et] at hh; exact hh.elim
    | some s' =>
      rw [et] at hh
      exact ⟨L, F1, d, s, s', hs.mono ex.sub, r, st.sub, et, fun σ' sl _ => hh L F1 H1 σ' .refl st sl⟩
theorem sf_ife {x y : List EV.St} {x' y' : List Stmt} (hc : PT X c' (tT X.K ad XR Wi W C t0)) (hx : PSs X x' (tSs X.K ad XR Wi W C b x)) (hy : PSs X y' (tSs X.K ad XR Wi W C b y)) : PS X (.If c' x' y' pos) (tS X.K ad XR Wi W C b (.ife t0 x y)) := by
  refine (ps_if hc hx hy).imp fun D σ H ⟨s, L, m, F, hs, hm, hb, h⟩ => ?_
  simp only [exS] at h
  refine (tSbt hs hm h).mono fun v H1 ⟨v', m1, F1, _, ex, st, r, hh⟩ => ?_
  subst r
  cases v' with
  | true => exact iteT ⟨s, L, m1, F1, hs.mono ex.sub, st, by rw [ex.len]; exact hb, hh⟩
  | false => exact iteF ⟨s, L, m1, F1, hs.mono ex.sub, st, by rw [ex.len]; exact hb, hh⟩
theorem sf_whl {x : List EV.St} {x' : List Stmt} (hp : PassesOwn (model X.prog X.w) X.A X.env X.xe) (hc : PT X c' (tT X.K ad XR Wi W C t0)) (hx : PSs X x' (tSs X.K ad XR Wi W C b x)) : PS X (.While c' x' [] pos) (tS X.K ad XR Wi W C b (.whl t0 x)) := by
  refine (ps_while hp hc hx).imp fun D σ H ⟨s, L, m, F, hs, hm, hb, h⟩ => ?_
  simp only [exS] at h
  refine ⟨fun k σ H => ∃ s L m F, SltR X.K ad L F s σ ∧ StoR X.K ad L m F H ∧ b ≤ m.length ∧ HoldS X.K ad XR Wi (whlF k _ s m) b L m F H D, ⟨whlMost, s, L, m, F, hs, hm, hb, h⟩, ?_⟩
  rintro k σ H ⟨s, L, m, F, hs, hm, hb, h⟩
  cases k with
  | zero => exact h.elim
  | succ k =>
    unfold whlF at h
    rw [bind_assoc] at h
    refine (tSbt hs hm h).mono fun v H1 ⟨v', m1, F1, _, ex, st, r, hh⟩ => ?_
    subst r
    cases v' with
    | false =>
      refine iteF ?_
      simp only [Bool.false_eq_true, if_false, R.bind_ok] at hh
      exact hh L F1 H1 σ .refl st (hs.mono ex.sub)
    | true =>
      refine iteT ⟨fun σ' H' => ∃ s L m F, SltR X.K ad L F s σ' ∧ StoR X.K ad L m F H' ∧ b ≤ m.length ∧ HoldS X.K ad XR Wi (whlF k _ s m) b L m F H' D, fun σ' H' q => ⟨k, Nat.lt_succ_self k, q⟩, s, L, m1, F1, hs.mono ex.sub, st, by rw [ex.len]; exact hb, ?_⟩
      simp only [if_true, bind_assoc] at hh
      cases q : exs W C b x s m1 with
      | ok o m2 =>
        rw [q] at hh
        simp only [R.bind_ok] at hh
        cases o with
        | nx s' => exact fun L' F' H' σ' e st sl => ⟨s', L', m2, F', sl, st, by rw [e.len, ex.len]; exact hb, HoldS.step e hh⟩
        | ctn s' => exact fun L' F' H' σ' e st sl => ⟨s', L', m2, F', sl, st, by rw [e.len, ex.len]; exact hb, HoldS.step e hh⟩
        | brk s' => exact hh
        | ret v => exact hh
      | exc => rw [q] at hh; exact hh
      | bad => rw [q] at hh; exact hh
theorem sf_for {tg : Tg} {ik : IK} {src : List Ex} {iter' : Expr} {x : List EV.St} {x' : List Stmt} (hp : PassesOwn (model X.prog X.w) X.A X.env X.xe) (hc : X.calm = true) (hi : PI X tg' iter' (tI X.K ad XR Wi W C ik src)) (hg : PG X tg' (gD X.K ad tg)) (hx : PSs X x' (tSs X.K ad XR Wi W C b x))
    (hse : setB iter' = false) : PS X (.For tg' iter' x' [] pos) (tS X.K ad XR Wi W C b (.fort tg ik src x)) := by
  refine (ps_for hp hc hi hg hx (set_fold hse _)).imp fun D σ H ⟨s, L, m, F, hs, hm, hb, h⟩ => ?_
  simp only [exS] at h
  refine (tSbs hs hm h).mono fun vsV H1 ⟨vs, m1, F1, _, ex1, st1, r1, hh⟩ => ?_
  cases e1 : datsOf vs with
  | none => rw [e1] at hh; exact hh.elim
  | some ds =>
  rw [e1] at hh
  dsimp only at hh
  cases e2 : walkD ik ds with
  | none => rw [e2] at hh; exact hh.elim
  | some xs =>
  rw [e2] at hh
  dsimp only at hh
  split at hh
  case isFalse => exact hh.elim
  case isTrue hz =>
  refine ⟨F1, ds, xs, st1.sub, datsOf_ok e1 r1, e2, fun J wk => ?_⟩
  refine for_it (n := xs.length) (G := fun H => Sub F1 H) (Y := J.yld) ⟨wk.goes, wk.stops, fun _ _ _ _ _ _ h => h⟩
    (fun i σ H => ∃ s L m F, SltR X.K ad L F s σ ∧ StoR X.K ad L m F H ∧ b ≤ m.length ∧ Sub F1 F ∧ HoldS X.K ad XR Wi (forF (fun d s m => match tgD tg d s with | some s' => exs W C b x s' m | none => .bad) (xs.drop i) s m) b L m F H D)
    ⟨s, L, m1, F1, hs.mono ex1.sub, st1, by rw [ex1.len]; exact hb, Sub.refl _, hh⟩ (fun i σ H hi ⟨s, L, m, F, _, hm, _, sub, _⟩ => sub.trans hm.sub) ?_ ?_
  · rintro i v σ H H' hi ⟨s, L, m, F, hs, hm, hb, sub, h⟩ hy
    obtain ⟨d, hd⟩ : ∃ d, xs[i]? = some d := ⟨_, List.getElem?_eq_getElem hi⟩
    obtain ⟨F2, g, rx⟩ := wk.yld i d F H v H' hd sub hm.sub hy
    have hdrop : xs.drop i = d :: xs.drop (i + 1) := by
      obtain ⟨h1, h2⟩ := List.getElem?_eq_some_iff.mp hd
      rw [List.drop_eq_getElem_cons h1, h2]
    rw [hdrop] at h
    unfold forF at h
    have h := HoldS.step (b := b) (Ext.s (g.ext (L := L) (m := m))) h
    cases et : tgD tg d s with
    | none => rw [et] at h; exact h.elim
    | some s' =>
      rw [et] at h
      dsimp only at h
      refine ⟨L, F2, d, s, s', hs.mono g.sub, rx, g.low, et, fun σ2 sl2 _ => ⟨s', L, m, F2, sl2, g.sto hm, hb, ?_⟩⟩
      cases q : exs W C b x s' m with
      | ok o m2 =>
        rw [q] at h
        simp only [R.bind_ok] at h
        cases o with
        | nx s3 => exact fun L' F' H' σ' e st sl => ⟨s3, L', m2, F', sl, st, by rw [e.len]; exact hb, (sub.trans g.sub).trans e.sub, HoldS.step e h⟩
        | ctn s3 => exact fun L' F' H' σ' e st sl => ⟨s3, L', m2, F', sl, st, by rw [e.len]; exact hb, (sub.trans g.sub).trans e.sub, HoldS.step e h⟩
        | brk s3 => exact h
        | ret v => exact h
      | exc => rw [q] at h; exact h
      | bad => rw [q] at h; exact h
  · rintro σ H ⟨s, L, m, F, hs, hm, hb, sub, h⟩
    rw [List.drop_length] at h
    exact h L F H σ .refl hm hs
end
end EV

set_option Elab.async false
set_option linter.all false
set_option maxRecDepth 100000
set_option maxHeartbeats 4000000
/-! EV, part L: statements that make and change lists. -/
namespace EV
open PySem PySem.Spec PyProof.Rows L2
section
variable {K : PySem.W.Frag} {ad : Nat → Addr} {XR : Xc → Value → Option Addr → Hp → Hp → Prop} {Wi : XK} {W : Wd} {C : Cal} {σ : L2.St} {H H1 H0 : Hp} {s : Slots} {L : List Addr} {m m1 : Sto} {F F1 : Hp} {b : Nat}
variable {X : Cx} {N : List Str} {sc : Scope} {lv : Nat} {n : Wn} {pos p2 : Pos} {e a : Ex} {t0 : Tx} {a' b' c' tg' : Expr}
/-! ### new lists -/
theorem Ext.none (e : Ext L m F H m1 F1 H1) {p : Addr} (h : H1 p = Option.none) : H p = Option.none := by
  cases q : H p with
  | none => rfl
  | some o =>
    obtain ⟨o', z⟩ := e.there p o q
    rw [z] at h; cases h
theorem new_end {ds : List D} {vs : List V} {Q : VK} (hn : ∀ p, H p = Option.none → H0 p = Option.none) (st : StoR K ad L m F H) (h : Hold K ad XR Wi (relN K ad H0) (.ok ds m) L m F H Q) (r : RpA K ad F vs ds) : ∀ p, H p = none → Q (.ref p) (upd H p (.lst vs)) := fun p hp => by
  have fp : F p = none := by
    cases q : F p with
    | none => rfl
    | some u => rw [st.sub _ _ q] at hp; cases hp
  have g := Grow.bare (o := .lst vs) st.sub hp
  exact h F (upd H p (.lst vs)) (.ref p) g.ext (g.sto st) ⟨p, vs, rfl, fp, hn p hp, upd_same, r⟩
theorem nf_lst {es : List Ex} {es' : List Expr} (h : PA X es' (tEs X.K ad XR Wi W C es)) : PE X (.List es' pos) (tN X.K ad XR Wi W C (.lst es)) := by
  refine (pe_lst h).imp fun σ H Q h => ?_
  obtain ⟨s, L, m, F, hs, hm, h⟩ := h
  simp only [evN] at h
  refine (tEs_bind hs hm h).mono fun xs H1 ⟨vs, m1, F1, b1, r1⟩ => ?_
  have hh := b1.hold
  split at hh
  · rename_i ds e
    split at hh
    · rename_i hz
      have r := datsOf_ok e r1
      exact ⟨by rw [r.len]; exact le_of_sz hz, new_end (fun p q => b1.ext.none q) b1.sto hh r⟩
    · exact hh.elim
  · exact hh.elim
theorem nf_call {k : Nat} {x : Str} {es : List Ex} {es' : List Expr} {p : Pos} (G : GO X.K ad XR W C X.prog X.w X.mg X.base n lv) (S : XO X N sc Wi lv) (hk : n.fnm[k]? = some x) (hg : Gl X x) (ho : okNm x = true)
    (ha : PA X es' (tEs X.K ad XR Wi W C es)) (hst : es'.all (fun e => !starB e) = true) (hes : es' = [] → es = []) : PE X (.Call (.Name x p) es' [] pos) (tN X.K ad XR Wi W C (.call k es)) := by
  refine ⟨fun pins s₀ σ H Q I h => ?_⟩
  obtain ⟨h1, h2⟩ := G.fn k x hk
  refine wpAny_Call_Name_kw (ld_glob I hg h1 ?_ (okNm_of ho).1)
  have run : ∀ (us : List Value) (s1 : Shared) (vs : List V) (H1 : Hp), L2.Inv X pins σ H1 s1 → Vals vs us → (∃ (a : List Vl) (m1 : Sto) (F1 : Hp) (L : List Addr), StoR X.K ad L m1 F1 H1 ∧ VlRs X.K ad L F1 a vs ∧ Hold X.K ad XR Wi (relR X.K ad L H1) (C k a m1) L m1 F1 H1 Q) →
      wpAny (model X.prog X.w) X.A (call (.ref (ad k)) us) (EP X pins σ Q) X.xe s1 := by
    intro us s1 vs H1 I1 rv ⟨a, m1, F1, L, st, r1, hh⟩
    refine wpAny_call (codeAny_mono (G.run k x hk X.A X.stack s1 H1 us vs Q Wi L m1 F1 a S.room S.grd I1.env0 rv st r1 hh) fun r s' hq => ?_)
    cases r with
    | error e => exact passes_call S.tk (E := Wi) (fun _ _ _ _ q => q) pins σ H1 s1 e s' I1 hq
    | ok fl =>
      cases fl with
      | ret u => exact I1.after hq
      | next => exact False.elim hq
      | brk => exact False.elim hq
      | cont => exact False.elim hq
  obtain ⟨s, L, m, F, hs, hm, h⟩ := h
  simp only [evN] at h
  have cv : ∀ (vs : List Vl) (m1 : Sto) (F1 H1 : Hp), (∀ p, H1 p = Option.none → H p = Option.none) → Hold X.K ad XR Wi (relN X.K ad H) ((C k vs m1).bind fun r m => match r with | .new xs => .ok xs m | _ => .bad) L m1 F1 H1 Q → Hold X.K ad XR Wi (relR X.K ad L H1) (C k vs m1) L m1 F1 H1 Q := by
    intro vs m1 F1 H1 hn hh
    cases hC : C k vs m1 with
    | ok r m2 =>
      rw [hC] at hh
      cases r with
      | vl v => exact hh.elim
      | new xs =>
        intro F' H' x ex st' ⟨p, vs, e, e1, e2, e3, e4⟩
        exact hh F' H' x ex st' ⟨p, vs, e, e1, hn p e2, e3, e4⟩
    | exc x m2 => rw [hC] at hh; exact hh
    | bad => rw [hC] at hh; exact hh
  cases es' with
  | nil =>
    have e0 := hes rfl
    subst e0
    have hh : Hold X.K ad XR Wi (relN X.K ad H) ((C k [] m).bind fun r m => match r with | .new xs => .ok xs m | _ => .bad) L m F H Q := h
    exact PySem.W.callWith_K0 I.kIn h2 (run [] s₀ [] H I .nil ⟨[], m, F, L, hm, .nil, cv [] m F H (fun _ q => q) hh⟩)
  | cons e1 es1 =>
    rw [List.all_cons, Bool.and_eq_true, Bool.not_eq_true'] at hst
    refine PySem.W.callWith_K (h₀ := X.base) I.ok.mod.kin h2 (thn (ha.run pos pins s₀ σ H (fun vs H1 => ∃ (a : List Vl) (m1 : Sto) (F1 : Hp) (L : List Addr), StoR X.K ad L m1 F1 H1 ∧ VlRs X.K ad L F1 a vs ∧ Hold X.K ad XR Wi (relR X.K ad L H1) (C k a m1) L m1 F1 H1 Q) I ?_)
      fun us s1 ⟨vs, H1, I1, rv, q⟩ => ⟨I1.kIn, run us s1 vs H1 I1 rv q⟩) (star_each hst.1 _ _) (star_any hst.2 _ _)
    refine (tEs_bind hs hm h).mono fun xs H1 ⟨vs, m1, F1, b1, r1⟩ => ?_
    exact ⟨vs, m1, F1, L, b1.sto, r1, cv vs m1 F1 H1 (fun p q => b1.ext.none q) b1.hold⟩
theorem nf_mul (ha : PE X a' (tE X.K ad XR Wi W C a)) (hb : PE X b' (tE X.K ad XR Wi W C e)) : PE X (.BinOp a' .Mult b' pos) (tN X.K ad XR Wi W C (.bin .Mult a e)) := by
  refine (pe_op op_rep ha hb).imp fun σ H Q h => ?_
  obtain ⟨s, L, m, F, hs, hm, h⟩ := h
  simp only [evN] at h
  refine (tE_bind hs hm h).mono fun x H1 ⟨v, m1, F1, b1, r1⟩ => ?_
  refine (tE_bind (hs.mono b1.ext.sub) b1.sto b1.hold).mono fun y H2 ⟨u, m2, F2, b2, r2⟩ => ?_
  have hh := b2.hold
  split at hh
  · rename_i xs j hd
    split at hh
    · rename_i hz
      have l := (r1.mono b2.ext.sub).lk b2.sto hd
      cases l with
      | lst p q =>
        cases r2
        simp only [Bool.and_eq_true, decide_eq_true_eq] at hz
        obtain ⟨⟨z1, z2⟩, z3⟩ := hz
        have z3' := le_of_sz z3
        rw [← q.len] at z3'
        exact ⟨_, _, _, rfl, rfl, p, by omega, by omega, z3', new_end (fun p q => b1.ext.none (b2.ext.none q)) b2.sto hh (q.rep _)⟩
    · exact hh.elim
  · exact hh.elim
theorem nf_add (ha : PE X a' (tE X.K ad XR Wi W C a)) (hb : PE X b' (tE X.K ad XR Wi W C e)) : PE X (.BinOp a' .Add b' pos) (tN X.K ad XR Wi W C (.bin .Add a e)) := by
  refine (pe_op op_cat ha hb).imp fun σ H Q h => ?_
  obtain ⟨s, L, m, F, hs, hm, h⟩ := h
  simp only [evN] at h
  refine (tE_bind hs hm h).mono fun x H1 ⟨v, m1, F1, b1, r1⟩ => ?_
  refine (tE_bind (hs.mono b1.ext.sub) b1.sto b1.hold).mono fun y H2 ⟨u, m2, F2, b2, r2⟩ => ?_
  have hh := b2.hold
  split at hh
  · rename_i xs ys hd he
    split at hh
    · rename_i hz
      have l := (r1.mono b2.ext.sub).lk b2.sto hd
      have l' := r2.lk b2.sto he
      cases l with
      | lst p q =>
        cases l' with
        | lst p' q' =>
          have z3' := le_of_sz hz
          rw [← q.len, ← q'.len] at z3'
          exact ⟨_, _, _, _, rfl, rfl, p, p', z3', new_end (fun p q => b1.ext.none (b2.ext.none q)) b2.sto hh (q.app q')⟩
    · exact hh.elim
  · exact hh.elim
theorem nf_list {x : Str} {p : Pos} (hx : x = ("list" : Str)) (hm : X.mg x = none) (hg : Gl X x) (ha : PE X a' (tE X.K ad XR Wi W C a)) (hst : starB a' = false) : PE X (.Call (.Name x p) [a'] [] pos) (tN X.K ad XR Wi W C (.blt .list [a])) := by
  subst hx
  refine (pe_callTy call_list_of hg hm (bt_boot .list) (pa_cons ha pa_nil (star_each hst _ _)) (by decide) (by decide) (star_each hst _ _) rfl).imp fun σ H Q h => ?_
  obtain ⟨s, L, m, F, hs, hm, h⟩ := h
  simp only [evN] at h
  refine (tE_bind hs hm h).mono fun x H1 ⟨v, m1, F1, b1, r1⟩ => ?_
  have hh := b1.hold
  show ∃ p ys, _
  split at hh
  · rename_i xs hd
    cases r1.lk b1.sto hd with
    | lst p q => exact ⟨_, _, rfl, .inl (SqL.of p), new_end (fun p q => b1.ext.none q) b1.sto hh q⟩
  · rename_i xs hd
    cases r1.lk b1.sto hd with
    | tup p q => exact ⟨_, _, rfl, .inr (SqT.mono b1.sto.sub p), new_end (fun p q => b1.ext.none q) b1.sto hh q⟩
  · exact hh.elim
/-! ### the store changed -/
theorem live_set {m : Sto} {i j : Nat} {x : MO} : live (m.set i x) j ↔ if i = j then (i < m.length ∧ ∃ xs, x = .lst xs) else live m j := by
  unfold live
  by_cases h : i = j
  · subst h
    rw [if_pos rfl]
    by_cases hi : i < m.length
    · rw [List.getElem?_set_self hi]
      constructor
      · rintro ⟨xs, e⟩; cases e; exact ⟨hi, xs, rfl⟩
      · rintro ⟨_, xs, rfl⟩; exact ⟨xs, rfl⟩
    · constructor
      · rintro ⟨xs, e⟩
        rw [List.getElem?_eq_none (by rw [List.length_set]; omega)] at e; cases e
      · rintro ⟨h, _⟩; exact absurd h hi
  · rw [if_neg h, List.getElem?_set_ne h]
theorem freeOf_ok {n i : Nat} : ∀ {s : Slots} {j : Nat}, freeOf n i j s = true → ∀ k : Nat, s[k]? = some (some (Vl.loc n)) → j + k = i
  | [], _, _, _, e => by simp at e
  | some (.loc q) :: r, j, h, 0, e => by
    simp only [freeOf, Bool.and_eq_true, Bool.or_eq_true] at h
    simp at e
    subst e
    simpa using h.1
  | some (.loc q) :: r, j, h, k + 1, e => by
    simp only [freeOf, Bool.and_eq_true] at h
    have := freeOf_ok h.2 k (by simpa using e)
    omega
  | some (.dat d) :: r, j, h, 0, e => by simp at e
  | some (.dat d) :: r, j, h, k + 1, e => by
    have := freeOf_ok (s := r) (j := j + 1) h k (by simpa using e)
    omega
  | none :: r, j, h, 0, e => by simp at e
  | none :: r, j, h, k + 1, e => by
    have := freeOf_ok (s := r) (j := j + 1) h k (by simpa using e)
    omega
theorem newl_sto {p : Addr} {vs : List V} {xs : List D} {c : Nat} (st : StoR K ad L m F H) (no : ¬ Own L m p) (fp : F p = none) (hp : H p = some (.lst vs)) (r : RpA K ad F vs xs) (hc : c < m.length) : StoR K ad (L.set c p) (m.set c (.lst xs)) F H where
  sub := st.sub
  obj := fun i ys e => by
    by_cases h : c = i
    · subst h
      rw [List.getElem?_set_self hc] at e
      cases e
      exact ⟨p, vs, List.getElem?_set_self (by rw [st.len]; exact hc), fp, hp, r⟩
    · rw [List.getElem?_set_ne h] at e
      obtain ⟨a, ws, e1, e2⟩ := st.obj i ys e
      exact ⟨a, ws, by rw [List.getElem?_set_ne h]; exact e1, e2⟩
  inj := fun i j a li lj ei ej => by
    have hl : c < L.length := by rw [st.len]; exact hc
    rw [live_set] at li lj
    by_cases h : c = i
    · subst h
      rw [List.getElem?_set_self hl] at ei
      cases ei
      by_cases h' : c = j
      · exact h'
      · rw [List.getElem?_set_ne h'] at ej
        rw [if_neg h'] at lj
        exact absurd ⟨j, lj, ej⟩ no
    · rw [List.getElem?_set_ne h] at ei
      rw [if_neg h] at li
      by_cases h' : c = j
      · subst h'
        rw [List.getElem?_set_self hl] at ej
        cases ej
        exact absurd ⟨i, li, ei⟩ no
      · rw [List.getElem?_set_ne h'] at ej
        rw [if_neg h'] at lj
        exact st.inj i j a li lj ei ej
  len := by rw [List.length_set, List.length_set]; exact st.len
theorem newl_slt {p : Addr} {c i : Nat} (sl : SltR K ad L F s σ) (hl : c < L.length) (hi : i < s.length) (fr : freeOf c i 0 s = true) : SltR K ad (L.set c p) F (s.set i (some (.loc c))) (σ.set i (some (.ref p))) where
  len := by rw [List.length_set, List.length_set]; exact sl.len
  at_ := fun j v e => by
    by_cases h : i = j
    · subst h
      rw [List.getElem?_set_self hi] at e
      cases e
      exact ⟨.ref p, List.getElem?_set_self (by rw [sl.len]; exact hi), p, List.getElem?_set_self hl, rfl⟩
    · rw [List.getElem?_set_ne h] at e ⊢
      obtain ⟨x, e1, r⟩ := sl.at_ j v e
      refine ⟨x, e1, ?_⟩
      cases v with
      | dat d => exact r
      | loc k =>
        obtain ⟨a, e2, e3⟩ := r
        have hk : c ≠ k := fun z => by
          subst z
          have := freeOf_ok fr j e
          omega
        exact ⟨a, by rw [List.getElem?_set_ne hk]; exact e2, e3⟩
theorem newl_ext {p : Addr} {xs : List D} {c : Nat} (e : Ext L m F H m1 F1 H1) (hp : H p = Option.none) (hb : b ≤ c) : ExtS b L m F H (L.set c p) (m1.set c (.lst xs)) F1 H1 where
  sub := e.sub
  keep := e.keep
  base := fun i hi => by
    have h : c ≠ i := by omega
    refine ⟨List.getElem?_set_ne h, ?_⟩
    rw [live_set, if_neg h]
    exact e.own i
  len := by rw [List.length_set]; exact e.len
  fresh := fun a => (e.fresh a).imp id .inl
  there := e.there
  ownC := fun a ⟨i, hi, l, q⟩ => by
    rw [live_set] at l
    by_cases h : c = i
    · subst h
      by_cases hl : c < L.length
      · rw [List.getElem?_set_self hl] at q
        cases q
        exact .inr hp
      · rw [List.getElem?_eq_none (by rw [List.length_set]; omega)] at q; cases q
    · rw [if_neg h] at l
      rw [List.getElem?_set_ne h] at q
      exact .inl ⟨i, hi, (e.own i).mp l, q⟩
theorem newl_read {i c : Nat} {D : Ends} (h : tS K ad XR Wi W C b (.newl i c e) D σ H) : tAsg (tN K ad XR Wi W C e) (gName i) D σ H := by
  obtain ⟨s, L, m, F, hs, hm, _, h⟩ := h
  simp only [exS] at h
  refine ⟨s, L, m, F, hs, hm, ?_⟩
  cases q : evN W C e s m with
  | ok xs m1 =>
    rw [q] at h
    simp only [R.bind_ok] at h
    intro F' H' x ex st ⟨p, vs, e0, e1, e2, e3, e4⟩
    subst e0
    split at h
    · rename_i hc
      simp only [Bool.and_eq_true, decide_eq_true_eq] at hc
      obtain ⟨⟨h1, h2⟩, h3⟩ := hc
      exact h _ F' H' _ (newl_ext ex e2 (by omega)) (newl_sto st (ex.notOwn hm e2) e1 e3 e4 h2) (newl_slt (hs.mono ex.sub) (by rw [st.len]; exact h2) h1 h3)
    · exact h.elim
  | exc => rw [q] at h; exact fun F' H' c d ex st r => h L F' H' c d ex.s st r
  | bad => rw [q] at h; exact h
/-- a list of the store written -/
theorem upd_sto {k : Nat} {p : Addr} {vs : List V} {xs : List D} (st : StoR K ad L m F H) (lk : live m k) (el : L[k]? = some p) (r : RpA K ad F vs xs) : StoR K ad L (m.set k (.lst xs)) F (upd H p (.lst vs)) where
  sub := fun a o e => by
    obtain ⟨ys, q⟩ := lk
    obtain ⟨a', ws, q1, q2, _⟩ := st.obj k ys q
    rw [el] at q1; cases q1
    rw [upd_ne (ne_of_none e q2)]
    exact st.sub _ _ e
  obj := fun i ys e => by
    by_cases h : k = i
    · subst h
      obtain ⟨zs, q⟩ := lk
      have hk : k < m.length := (List.getElem?_eq_some_iff.mp q).1
      rw [List.getElem?_set_self hk] at e
      cases e
      obtain ⟨a', ws, q1, q2, _⟩ := st.obj k zs q
      rw [el] at q1; cases q1
      exact ⟨_, vs, el, q2, upd_same, r⟩
    · rw [List.getElem?_set_ne h] at e
      obtain ⟨a, ws, e1, e2, e3, e4⟩ := st.obj i ys e
      have ne : a ≠ p := fun z => by
        subst z
        exact h (st.inj k i a lk ⟨ys, e⟩ el e1)
      exact ⟨a, ws, e1, e2, by rw [upd_ne ne]; exact e3, e4⟩
  inj := fun i j a li lj => by
    have f : ∀ i, live (m.set k (.lst xs)) i → live m i := fun i l => by
      rw [live_set] at l
      split at l
      · rename_i z; subst z; exact lk
      · exact l
    exact st.inj i j a (f i li) (f j lj)
  len := by rw [List.length_set]; exact st.len
theorem upd_ext {k : Nat} {p : Addr} {o : HO} {xs : List D} (lk : live m k) (el : L[k]? = some p) : ExtS b L m F H L (m.set k (.lst xs)) F (upd H p o) where
  sub := Sub.refl _
  keep := fun a u e n => by
    have ne : a ≠ p := fun z => n (z ▸ ⟨k, lk, el⟩)
    rw [upd_ne ne]; exact e
  base := fun i _ => ⟨rfl, by
    rw [live_set]
    split
    · rename_i z
      subst z
      obtain ⟨ys, q⟩ := id lk
      exact ⟨fun _ => lk, fun _ => ⟨(List.getElem?_eq_some_iff.mp q).1, xs, rfl⟩⟩
    · exact Iff.rfl⟩
  len := List.length_set
  fresh := fun _ => .inl rfl
  there := fun a u e => by
    by_cases h : a = p
    · subst h; exact ⟨o, upd_same⟩
    · exact ⟨u, by rw [upd_ne h]; exact e⟩
  ownC := fun a ⟨i, hi, l, q⟩ => by
    rw [live_set] at l
    split at l
    · rename_i z; subst z; exact .inl ⟨k, hi, lk, q⟩
    · exact .inl ⟨i, hi, l, q⟩
theorem locAt_of {i k : Nat} (sl : SltR K ad L F s σ) (h : locAt s i = some k) : ∃ p, σ[i]? = some (some (.ref p)) ∧ L[k]? = some p := by
  unfold locAt at h
  split at h
  · rename_i q e
    cases h
    obtain ⟨x, e1, p, e2, rfl⟩ := sl.at_ i _ e
    exact ⟨p, e1, e2⟩
  · cases h
/-- x[e1] = e2 -/
theorem sset_read {i : Nat} {ix : Ex} {D : Ends} (h : tS K ad XR Wi W C b (.sset i ix e) D σ H) : tAsg (tE K ad XR Wi W C e) (gSub (tVar i) (tE K ad XR Wi W C ix) rSetL) D σ H := by
  obtain ⟨s, L, m, F, hs, hm, hb, h⟩ := h
  simp only [exS] at h
  cases el : locAt s i with
  | none => rw [el] at h; exact h.elim
  | some k =>
    rw [el] at h
    refine (tSb (β := Unit) hs hm h).mono fun x H1 ⟨v, m1, F1, _, ex, st, r, hh⟩ => ?_
    have hs1 := hs.mono ex.sub
    obtain ⟨p, e1, e2⟩ := locAt_of hs1 el
    refine ⟨_, e1, ?_⟩
    refine (tSb (β := Unit) hs1 st hh).mono fun y H2 ⟨u, m2, F2, _, ex2, st2, r2, hk⟩ => ?_
    cases v with
    | loc _ => exact hk.elim
    | dat d =>
    cases u with
    | loc _ => exact hk.elim
    | dat g =>
    cases g with
    | int j =>
      dsimp only at hk
      cases em : m2[k]? with
      | none => rw [em] at hk; exact hk.elim
      | some o =>
        rw [em] at hk
        cases o with
        | nil => exact hk.elim
        | lst xs =>
          dsimp only at hk
          cases ej : ixD xs.length j with
          | none => rw [ej] at hk; exact hk.elim
          | some q =>
            rw [ej] at hk
            cases r2
            obtain ⟨p', vs, q1, q2, q3, q4⟩ := st2.obj k xs em
            rw [e2] at q1; cases q1
            have rr := RpA.set (r.mono ex2.sub) q q4
            exact ⟨p, vs, j, q, rfl, rfl, q3, by rw [← ixD_eq, q4.len]; exact ej, hk L F2 _ σ (upd_ext ⟨xs, em⟩ e2) (upd_sto st2 ⟨xs, em⟩ e2 rr) (hs1.mono ex2.sub)⟩
    | _ => exact hk.elim
end
end EV

set_option Elab.async false
set_option linter.all false
set_option maxRecDepth 100000
set_option maxHeartbeats 4000000
/-! EV, part M: the other statements. -/
namespace EV
open PySem PySem.Spec PyProof.Rows L2
/-! ### what the compiler does with a tuple's stores, and with a comprehension at a name -/
def compB : Expr → Bool
  | .ListComp _ _ _ _ => true
  | .SetComp _ _ _ _ => true
  | .DictComp _ _ _ _ _ => true
  | _ => false
theorem sw_plain {e : Expr} (h : compB e = false) (t : Option Expr) (l : Nat) (env : Env) : swapsWith e t l env = pure false := by
  cases e <;> first | rfl | cases h
/-- the names stored in one go, as the compiler does it; none: the model has no word -/
def swpB (sc : Scope) (ts vs : List Expr) : Option (Option (List Str)) :=
  if !(ts.length == 2 || ts.length == 3) || vs.length != ts.length then some none
  else if vs.any (fun | .Starred .. => true | _ => false) then some none
  else
    let line := (ts.head?.map (·.pos.line)).getD 0
    let names := ts.filterMap fun
      | .Name id pos => if sc.names.lookup id == some .local && pos.line == line then some id else none
      | _ => none
    if names.length != ts.length || names.eraseDups.length != names.length then some none
    else if vs.all (foldedForSure 8) then some none
    else if vs.all (constantsAlone 8) then none
    else some (some names)
theorem swp_of {sc : Scope} {env : Env} {ts vs : List Expr} {o : Option (List Str)} {k k2 p p2} (hs : env.scope = sc) (hk : sc.kind = .function) (h : swpB sc ts vs = some o) : swappedStores [.Tuple ts k p] (.Tuple vs k2 p2) env = pure o := by
  have hb : env.blockKind = .function := by
    unfold Env.blockKind
    rw [hs, hk]
    rfl
  have hkd : ∀ id, env.kindOf id = sc.names.lookup id := fun id => by rw [← hs]; rfl
  unfold swpB at h
  unfold swappedStores
  simp only [hb, hkd]
  dsimp only at h
  have z : ∀ c : Bool, (c || (ScopeKind.function != ScopeKind.function)) = c := fun c => Bool.or_false c
  rw [z]
  split at h
  · rename_i g
    cases h
    exact if_pos g
  · rename_i g
    refine (if_neg g).trans ?_
    split at h
    · rename_i g
      cases h
      exact if_pos g
    · rename_i g
      refine (if_neg g).trans ?_
      split at h
      · rename_i g
        cases h
        exact if_pos g
      · rename_i g
        refine (if_neg g).trans ?_
        split at h
        · rename_i g
          cases h
          exact if_pos g
        · rename_i g
          refine (if_neg g).trans ?_
          split at h
          · cases h
          · rename_i g
            cases h
            exact if_neg g
theorem swp_none {env : Env} {t e : Expr} (h : isTupE e = false) : swappedStores [t] e env = pure none := by
  cases t <;> cases e <;> first | rfl | cases h
/-- where statements of a def run -/
structure SO (X : Cx) (N : List Str) (sc : Scope) (Wi : XK) (lv : Nat) : Prop extends XO X N sc Wi lv where
  stb : StB X sc
  own : PassesOwn (model X.prog X.w) X.A X.env X.xe
  kd : sc.kind = .function
section
variable {K : PySem.W.Frag} {ad : Nat → Addr} {XR : Xc → Value → Option Addr → Hp → Hp → Prop} {Wi : XK} {W : Wd} {C : Cal} {σ : L2.St} {H H1 H0 : Hp} {s : Slots} {L : List Addr} {m m1 : Sto} {F F1 : Hp} {b : Nat}
variable {X : Cx} {N : List Str} {sc : Scope} {lv : Nat} {n : Wn} {pos p2 : Pos} {e a : Ex} {t0 : Tx} {a' b' c' tg' : Expr}
/-! ### x.append(e), x += e -/
theorem all_plain {e : Expr} (h : starB e = false) (pos : Pos) (env : Env) : (backTo pos (starEach [e] env)).all (fun x => !x.1) = true := by
  rw [star_each h]
  rfl
theorem app_read {i : Nat} {D : Ends} (h : tS X.K ad XR Wi W C b (.app i e) D σ H) : tDrop (tBM X.K "list" rAppend (tVar i) (tEs X.K ad XR Wi W C [e])) D σ H := by
  obtain ⟨s, L, m, F, hs, hm, hb, h⟩ := h
  simp only [exS] at h
  cases el : locAt s i with
  | none => rw [el] at h; exact h.elim
  | some k =>
    rw [el] at h
    obtain ⟨p, e1, e2⟩ := locAt_of hs el
    refine ⟨_, e1, ?_⟩
    dsimp only at h
    split at h
    case isFalse => exact h.elim
    case isTrue hl =>
    refine ⟨?_, ?_⟩
    · unfold isLs at hl
      split at hl
      · rename_i xs q
        obtain ⟨p', vs, q1, q2, q3, q4⟩ := hm.obj k xs q
        rw [e2] at q1; cases q1
        exact .inl ⟨rfl, vs, SqL.of q3⟩
      · cases hl
    · refine tSbs (es := [e]) (f := fun vs m1 => match vs with | [.dat d] => (match m1[k]? with | some (.lst xs) => if szOk (xs.length + 1) then .ok (.nx s) (m1.set k (.lst (xs ++ [d]))) else .bad | _ => .bad) | _ => .bad) (b := b) (Dz := D) hs hm ?_ |>.mono fun xs H1 ⟨vs, m1, F1, _, ex, st, r, hk⟩ => ?_
      · simp only [evs, bind_assoc, R.bind_ok]
        cases q : ev W C e s m with
        | ok v m1 =>
          rw [q] at h
          simp only [R.bind_ok] at h ⊢
          cases v <;> exact h
        | exc => rw [q] at h; exact h
        | bad => rw [q] at h; exact h
      · split at hk
        · rename_i d
          split at hk
          · rename_i ys em
            split at hk
            · rename_i hz
              obtain ⟨p', ws, q1, q2, q3, q4⟩ := st.obj k ys em
              rw [e2] at q1; cases q1
              cases r with
              | cons r1 r2 =>
                cases r2
                have hz' := le_of_sz hz
                refine ⟨p, ws, _, rfl, rfl, q3, by rw [q4.len]; omega, ?_⟩
                exact hk L F1 _ σ (upd_ext ⟨ys, em⟩ e2) (upd_sto st ⟨ys, em⟩ e2 (q4.app (.cons r1 .nil))) (hs.mono ex.sub)
            · exact hk.elim
          · exact hk.elim
        · exact hk.elim
theorem sf_app {i : Nat} {x : Str} {p1 ap cp : Pos} (hx : PE X (.Name x p1) (tVar i)) (ha : PE X a' (tE X.K ad XR Wi W C e)) (hst : starB a' = false) (hl : (ap.endLine == cp.line) = true) :
    PS X (.Expr (.Call (.Attribute (.Name x p1) "append" ap) [a'] [] cp) pos) (tS X.K ad XR Wi W C b (.app i e)) :=
  (ps_expr (pe_bm PySem.F.plainAttrs_list PySem.F.slot_list_append PySem.F.type_list_append (mt_append) hx (pfs_cons ha pfs_nil hst) rfl (by rw [star_each hst]; rfl) hl (star_each hst _ _) rfl) rfl).imp fun D σ H h => app_read h
theorem aug_read {i : Nat} {op : Operator} {D : Ends} {f : Int → Int → Int} (h : tS X.K ad XR Wi W C b (.aug i op e) D σ H)
    (hf : (op = .Add ∧ f = fun i j => i + j) ∨ (op = .Sub ∧ f = fun i j => i - j)) : tAug i (tE X.K ad XR Wi W C e) (ipI f) D σ H := by
  obtain ⟨s, L, m, F, hs, hm, hb, h⟩ := h
  simp only [exS] at h
  split at h
  case h_2 => exact h.elim
  case h_1 d e1 =>
  obtain ⟨x, q1, r1⟩ := hs.at_ i _ e1
  refine ⟨x, q1, ?_⟩
  refine (tSb (β := Unit) hs hm h).mono fun y H1 ⟨v, m1, F1, _, ex, st, r, hk⟩ => ?_
  have hi : i < s.length := (List.getElem?_eq_some_iff.mp e1).1
  clear h
  cases d with
  | int x =>
    cases v with
    | loc k => rcases hf with ⟨rfl, rfl⟩ | ⟨rfl, rfl⟩ <;> exact hk.elim
    | dat g =>
      cases g with
      | int y =>
        cases r1
        have r' : Rp X.K ad F1 _ (.int y) := r
        cases r'
        rcases hf with ⟨rfl, rfl⟩ | ⟨rfl, rfl⟩
        · exact ⟨_, _, rfl, rfl, hk L F1 H1 _ .refl st ((hs.mono ex.sub).set hi (.int _))⟩
        · exact ⟨_, _, rfl, rfl, hk L F1 H1 _ .refl st ((hs.mono ex.sub).set hi (.int _))⟩
      | _ => rcases hf with ⟨rfl, rfl⟩ | ⟨rfl, rfl⟩ <;> exact hk.elim
  | _ => rcases hf with ⟨rfl, rfl⟩ | ⟨rfl, rfl⟩ <;> exact hk.elim
end
end EV

set_option Elab.async false
set_option linter.all false
set_option maxRecDepth 100000
set_option maxHeartbeats 4000000
/-! EV, part N: all statements at once. -/
namespace EV
open PySem PySem.Spec PyProof.Rows L2
/-- an expression that makes a new list -/
def newB : Ex → Bool
  | .lst _ => true
  | .comp _ _ _ _ _ => true
  | .bin .Mult _ _ => true
  | .bin .Add _ _ => true
  | .blt .list [_] => true
  | .call _ _ => true
  | _ => false
def augB : Operator → Bool
  | .Add => true
  | .Sub => true
  | _ => false
/-- a tuple's stores go one by one -/
def swpT (sc : Scope) (ts : List Expr) : Expr → Bool
  | .Tuple vs _ _ => decide (swpB sc ts vs = some none)
  | _ => true
theorem swpT_of {sc : Scope} {env : Env} {ts : List Expr} {k p} {e : Expr} (hs : env.scope = sc) (hk : sc.kind = .function) (h : swpT sc ts e = true) : swappedStores [.Tuple ts k p] e env = pure none := by
  cases e <;> first | exact swp_of hs hk (of_decide_eq_true h) | rfl
mutual
def matS (W : Wd) (n : Wn) (N : List Str) (sc : Scope) : EV.St → Stmt → Bool
  | .set (.nm i) e, .Assign [.Name x _] e' _ => atB N i x && locB sc x && matE W n N e sc e'
  | .set (.tp ts) e, .Assign [.Tuple ts' k p] e' _ => matTg N sc (.tp ts) (.Tuple ts' k p) && matE W n N e sc e' && swpT sc ts' e'
  | .par [i, j] es, .Assign [.Tuple [.Name x px, .Name y py] _ _] (.Tuple [a, b] _ _) _ => atB N i x && atB N j y && decide (i ≠ j) && matEs W n N es sc [a, b] && isKind sc x .local && isKind sc y .local && decide (swpB sc [.Name x px, .Name y py] [a, b] = some (some [x, y]))
  | .par [i, j, l] es, .Assign [.Tuple [.Name x px, .Name y py, .Name z pz] _ _] (.Tuple [a, b, c] _ _) _ => atB N i x && atB N j y && atB N l z && decide (i ≠ j) && decide (i ≠ l) && decide (j ≠ l) && matEs W n N es sc [a, b, c] && isKind sc x .local && isKind sc y .local && isKind sc z .local && decide (swpB sc [.Name x px, .Name y py, .Name z pz] [a, b, c] = some (some [x, y, z]))
  | .newl i _ e, .Assign [.Name x _] e' _ => atB N i x && locB sc x && newB e && matE W n N e sc e'
  | .sset i ix e, .Assign [.Subscript (.Name x _) ix' _] e' _ => atB N i x && visB sc x && okNm x && matE W n N ix sc ix' && !sliceB ix' && matE W n N e sc e'
  | .app i e, .Expr (.Call (.Attribute (.Name x _) m ap) [e'] [] cp) _ => atB N i x && visB sc x && okNm x && decide (m = ("append" : Str)) && !starB e' && (ap.endLine == cp.line) && matE W n N e sc e'
  | .aug i op e, .AugAssign (.Name x _) op' e' _ => atB N i x && locB sc x && decide (op = op') && augB op && matE W n N e sc e'
  | .ife c a b, .If c' a' b' _ => matT W n N c sc c' && matSs W n N sc a a' && matSs W n N sc b b'
  | .whl c b, .While c' b' [] _ => matT W n N c sc c' && matSs W n N sc b b'
  | .fort tg ik src b, .For tg' iter' b' [] _ => matTg N sc tg tg' && matItH n sc ik iter' (isTupE tg') && matEs W n N src sc (itExprs ik iter') && !setB iter' && matSs W n N sc b b'
  | .ret e, .Return (some e') _ => matE W n N e sc e'
  | .retn, .Return none _ => true
  | .retf e, .Return (some e') _ => newB e && matE W n N e sc e'
  | .brk, .Break _ => true
  | .ctn, .Continue _ => true
  | .pas, .Pass _ => true
  | .exp e, .Expr e' _ => !compB e' && matE W n N e sc e'
  | .never, _ => true
  | _, _ => false
def matSs (W : Wd) (n : Wn) (N : List Str) (sc : Scope) : List EV.St → List Stmt → Bool
  | [], [] => true
  | .frz _ :: r, r' => matSs W n N sc r r'
  | x :: r, x' :: r' => matS W n N sc x x' && matSs W n N sc r r'
  | _, _ => false
end
/-- the model's other statement at a name, on the comprehension's line -/
def swB (sc : Scope) (x : Str) (px : Pos) (scope : Scope) (pos : Pos) : Bool :=
  (sc.names.lookup x == some .local) && (px.line == pos.line) && !(scope.names.any fun (n, k) => n == x && (k == .local || k == .cell))
theorem sw_name {sc : Scope} {env : Env} {x : Str} {px pos : Pos} {elt : Expr} {gs : List Comprehension} {scope : Scope} {l : Nat} (hs : env.scope = sc) (hk : sc.kind = .function) :
    swapsWith (.ListComp elt gs scope pos) (some (.Name x px)) l env = pure (swB sc x px scope pos) := by
  have hb : env.blockKind = .function := by
    unfold Env.blockKind
    rw [hs, hk]
    rfl
  have hkd : ∀ id, env.kindOf id = sc.names.lookup id := fun id => by rw [← hs]; rfl
  unfold swapsWith
  simp only [hb, hkd, Expr.pos]
  rfl
theorem sw_sub {e o i : Expr} {p : Pos} {l : Nat} {env : Env} : swapsWith e (some (.Subscript o i p)) l env = pure false := by
  cases e <;> rfl
theorem sw_tup {e : Expr} {es : List Expr} {k : Nat} {p : Pos} {l : Nat} {env : Env} : swapsWith e (some (.Tuple es k p)) l env = pure false := by
  cases e <;> rfl
theorem slice_asg {o i : Expr} {pos : Pos} {env : Env} (h : sliceB i = false) : ∀ v, assign (.Subscript o i pos) env v = (do
      let ov ← holding [v] (eval o env)
      let iv ← holding [v, ov] (eval i env)
      standAt pos
      holding [v, ov, iv] (setItem ov iv v)
      release [v, ov, iv] []) := by
  intro v
  cases i <;> first | rfl | cases h
section
variable {ad : Nat → Addr} {XR : Xc → Value → Option Addr → Hp → Hp → Prop} {W : Wd} {C : Cal} {n : Wn} {N : List Str} {lv : Nat}
variable {X : Cx} {sc : Scope} {Wi : XK} {b : Nat}
/-! ### new lists -/
theorem snd_comp {tg : Tg} {ik : IK} {src : List Ex} {ifs : List Tx} {elt : Ex} (S : XO X N sc Wi lv) (G : GO X.K ad XR W C X.prog X.w X.mg X.base n lv) {elt' : Expr} {gs : List Comprehension} {scope : Scope} {p : Pos} (h : matE W n N (.comp tg ik src ifs elt) sc (.ListComp elt' gs scope p) = true) :
    ∃ tg' iter' ifs' own, gs = [⟨tg', iter', ifs', 0⟩] ∧ PI X tg' iter' (tI X.K ad XR Wi W C ik src) ∧ BlkOk X.N X.env.scope scope own ∧ own.map (·.2) = slotsOf tg ∧
      (∀ (s : Shared) (H : Hp) (C : Addr) (cl : List (Str × Addr)) (fp : List Addr), PG (X.blk s H scope (compEnvC scope cl C X.env) fp) tg' (gD X.K ad tg)) ∧
      (∀ (s : Shared) (H : Hp) (C0 : Addr) (cl : List (Str × Addr)) (fp : List Addr), PTs (X.blk s H scope (compEnvC scope cl C0 X.env) fp) ifs' (tIfs X.K ad XR (fun _ _ _ => False) W C ifs)) ∧
      (∀ (s : Shared) (H : Hp) (C0 : Addr) (cl : List (Str × Addr)) (fp : List Addr), PE (X.blk s H scope (compEnvC scope cl C0 X.env) fp) elt' (tE X.K ad XR (fun _ _ _ => False) W C elt)) ∧
      (∀ x, foldedSetIterable iter' X.env x = pure x) := by
  match gs, h with
  | [⟨tg', iter', ifs', z⟩], h =>
    simp only [matE, Bool.and_eq_true, decide_eq_true_eq, Bool.not_eq_true'] at h
    obtain ⟨⟨⟨⟨⟨⟨⟨⟨rfl, h1⟩, h2⟩, h3⟩, h4⟩, h5⟩, h6⟩, h7⟩, h8⟩ := h
    exact ⟨tg', iter', ifs', ownsOf N tg, rfl, pi_all S G h4 h5 (snd_Es src X sc Wi S G _ h5) (snd_H src X sc Wi S G), by rw [S.nm, S.es]; exact blkOk_by h1, h2, fun s H C0 cl fp => pg_d (S.blk s H scope C0 cl fp) (StB.blk s H scope C0 cl fp) tg tg' h3,
      fun s H C0 cl fp => snd_Ifs ifs _ _ _ (S.blk s H scope C0 cl fp) G ifs' h7, fun s H C0 cl fp => snd_E elt _ _ _ (S.blk s H scope C0 cl fp) G elt' h8, set_fold h6 _⟩
  | [], h => simp [matE] at h
  | _ :: _ :: _, h => simp [matE] at h
theorem snd_N {e : Ex} (S : XO X N sc Wi lv) (G : GO X.K ad XR W C X.prog X.w X.mg X.base n lv) {e' : Expr} (hn : newB e = true) (h : matE W n N e sc e' = true) : PE X e' (tN X.K ad XR Wi W C e) := by
  cases e with
  | lst es =>
    cases e' with
    | List es' p =>
      simp only [matE] at h
      exact nf_lst (snd_Es es X sc Wi S G es' h)
    | _ => simp [matE] at h
  | comp tg ik src ifs elt =>
    cases e' with
    | ListComp elt' gs scope p =>
      obtain ⟨tg', iter', ifs', own, rfl, h1, h2, h3, h4, h5, h6, h7⟩ := snd_comp S G h
      exact pf_compN S h1 h2 h3 h4 h5 h6 h7
    | _ => simp [matE] at h
  | bin op a c =>
    cases e' with
    | BinOp a' op' b' p =>
      simp only [matE, Bool.and_eq_true, decide_eq_true_eq] at h
      obtain ⟨⟨rfl, h1⟩, h2⟩ := h
      cases op with
      | Mult => exact nf_mul (snd_E a X sc Wi S G a' h1) (snd_E c X sc Wi S G b' h2)
      | Add => exact nf_add (snd_E a X sc Wi S G a' h1) (snd_E c X sc Wi S G b' h2)
      | _ => cases hn
    | _ => simp [matE] at h
  | blt t es =>
    cases e' with
    | Call f es' kws p =>
      cases f with
      | Name x p1 =>
        cases kws with
        | nil =>
          simp only [matE, Bool.and_eq_true, decide_eq_true_eq] at h
          obtain ⟨⟨⟨⟨h1, h2⟩, h3⟩, h4⟩, h5⟩ := h
          match t, es, es', hn, h5 with
          | .list, [a], [a'], _, h5 =>
            simp only [matEs, Bool.and_eq_true, Bool.not_eq_true'] at h5
            exact nf_list h1.symm (G.bs _ h2) (S.gl h3) (snd_E a X sc Wi S G a' h5.1.2) h5.1.1
          | .list, [a], [], _, h5 => simp [matEs] at h5
          | .list, [a], _ :: _ :: _, _, h5 => simp [matEs] at h5
        | cons => simp [matE] at h
      | _ => simp [matE] at h
    | _ => simp [matE] at h
  | call k es =>
    cases e' with
    | Call f es' kws p =>
      cases f with
      | Name x p1 =>
        cases kws with
        | nil =>
          simp only [matE, Bool.and_eq_true] at h
          obtain ⟨h1, h2⟩ := matEs_star h.2
          exact nf_call G S (fnm_of h.1.1.1) (S.gl h.1.1.2) h.1.2 (snd_Es es X sc Wi S G es' h.2) h1 h2
        | cons => simp [matE] at h
      | _ => simp [matE] at h
    | _ => simp [matE] at h
  | _ => cases hn
theorem comp_only {e : Ex} {e' : Expr} (hc : compB e' = true) (h : matE W n N e sc e' = true) : ∃ elt gs scope p, e' = .ListComp elt gs scope p ∧ ∃ tg ik src ifs el, e = .comp tg ik src ifs el := by
  cases e' with
  | ListComp elt gs scope p =>
    refine ⟨_, _, _, _, rfl, ?_⟩
    cases e with
    | comp => exact ⟨_, _, _, _, _, rfl⟩
    | cst d => cases d <;> simp [matE] at h
    | slc k a es => cases k <;> simp [matE] at h
    | _ => simp [matE] at h
  | SetComp =>
    cases e with
    | cst d => cases d <;> simp [matE] at h
    | slc k a es => cases k <;> simp [matE] at h
    | _ => simp [matE] at h
  | DictComp =>
    cases e with
    | cst d => cases d <;> simp [matE] at h
    | slc k a es => cases k <;> simp [matE] at h
    | _ => simp [matE] at h
  | _ => cases hc
/-- name = [..] that is new, either way -/
theorem snd_asgN {e : Ex} {i : Nat} {x : Str} {px pos : Pos} (S : SO X N sc Wi lv) (G : GO X.K ad XR W C X.prog X.w X.mg X.base n lv) {e' : Expr} (hi : atB N i x = true) (hx : locB sc x = true) (hn : newB e = true) (h : matE W n N e sc e' = true) :
    PS X (.Assign [.Name x px] e' pos) (tAsg (tN X.K ad XR Wi W C e) (gName i)) := by
  obtain ⟨l1, l2⟩ := S.stb _ hx
  have nd : X.N.Nodup := by rw [S.nm]; exact S.nd
  have pe := snd_N S.toXO G hn h
  by_cases hc : compB e' = true
  · obtain ⟨elt', gs, scope, p, rfl, tg, ik, src, ifs, elt, rfl⟩ := comp_only hc h
    have hsw := sw_name (x := x) (px := px) (pos := p) (elt := elt') (gs := gs) (scope := scope) (l := pos.line) S.es S.kd
    cases hb : swB sc x px scope p with
    | false => exact ps_set nd (S.at_ hi) l1 pe (by rw [hsw, hb]) l2
    | true =>
      obtain ⟨tg', iter', ifs', own, rfl, h1, h2, h3, h4, h5, h6, h7⟩ := snd_comp S.toXO G h
      have hl : X.env.scope.names.lookup x = some .local := by
        simp only [swB, Bool.and_eq_true, beq_iff_eq] at hb
        rw [S.es]; exact hb.1.1
      have h0 := ps_setLc (py := px) (spos := pos) (pos := p) S.calm nd (S.at_ hi) hl (by rw [hsw, hb]) h1 h2 h4 h5 h6 h7
      rw [h3] at h0
      exact h0.imp fun D σ H ⟨s, L, m, F, q1, q2, q⟩ => comp_read q1 q2 q
  · have hc : compB e' = false := by simpa using hc
    exact ps_set nd (S.at_ hi) l1 pe (sw_plain hc _ _ _) l2
theorem snd_asgE {e : Ex} {i : Nat} {x : Str} {px pos : Pos} (S : SO X N sc Wi lv) (G : GO X.K ad XR W C X.prog X.w X.mg X.base n lv) {e' : Expr} (hi : atB N i x = true) (hx : locB sc x = true) (h : matE W n N e sc e' = true) :
    PS X (.Assign [.Name x px] e' pos) (tAsg (tE X.K ad XR Wi W C e) (gName i)) := by
  by_cases hc : compB e' = true
  · obtain ⟨elt', gs, scope, p, rfl, tg, ik, src, ifs, elt, rfl⟩ := comp_only hc h
    exact (snd_asgN S G hi hx rfl h).imp fun D σ H ⟨s, L, m, F, h1, h2, h⟩ => ⟨s, L, m, F, h1, h2, frz_hold h2 (by rw [ev_comp] at h; exact h)⟩
  · have hc : compB e' = false := by simpa using hc
    obtain ⟨l1, l2⟩ := S.stb _ hx
    exact ps_set (by rw [S.nm]; exact S.nd) (S.at_ hi) l1 (snd_E e X sc Wi S.toXO G e' h) (sw_plain hc _ _ _) l2
theorem par2_read {i j : Nat} {es : List Ex} {D : Ends} {σ : L2.St} {H : Hp} (h : tS X.K ad XR Wi W C b (.par [i, j] es) D σ H) : tPar i j (tEs X.K ad XR Wi W C es) D σ H := by
  obtain ⟨s, L, m, F, hs, hm, hb, h⟩ := h
  simp only [exS] at h
  refine (tSbs hs hm h).mono fun xs H1 ⟨vs, m1, F1, _, ex, st, r, hk⟩ => ?_
  match vs, r, hk with
  | [u, v], .cons r1 (.cons r2 .nil), hk =>
    simp only [parS] at hk
    split at hk
    · split at hk
      · rename_i g1 g2
        exact ⟨_, _, rfl, hk L F1 H1 _ .refl st ((((hs.mono ex.sub).set g1 r1)).set g2 r2)⟩
      · exact hk.elim
    · exact hk.elim
  | [], _, hk => exact hk.elim
  | [u], .cons r1 .nil, hk =>
    simp only [parS] at hk
    split at hk <;> exact hk.elim
  | u :: v :: w :: r, .cons r1 (.cons r2 (.cons r3 r4)), hk =>
    simp only [parS] at hk
    split at hk
    · split at hk <;> exact hk.elim
    · exact hk.elim
theorem par3_read {i j l : Nat} {es : List Ex} {D : Ends} {σ : L2.St} {H : Hp} (h : tS X.K ad XR Wi W C b (.par [i, j, l] es) D σ H) : tPar3 i j l (tEs X.K ad XR Wi W C es) D σ H := by
  obtain ⟨s, L, m, F, hs, hm, hb, h⟩ := h
  simp only [exS] at h
  refine (tSbs hs hm h).mono fun xs H1 ⟨vs, m1, F1, _, ex, st, r, hk⟩ => ?_
  match vs, r, hk with
  | [u, v, w], .cons r1 (.cons r2 (.cons r3 .nil)), hk =>
    simp only [parS] at hk
    split at hk
    · split at hk
      · split at hk
        · rename_i g1 g2 g3
          exact ⟨_, _, _, rfl, hk L F1 H1 _ .refl st ((((hs.mono ex.sub).set g1 r1).set g2 r2).set g3 r3)⟩
        · exact hk.elim
      · exact hk.elim
    · exact hk.elim
  | [], _, hk => exact hk.elim
  | [u], .cons r1 .nil, hk =>
    simp only [parS] at hk
    split at hk <;> exact hk.elim
  | [u, v], .cons r1 (.cons r2 .nil), hk =>
    simp only [parS] at hk
    split at hk
    · split at hk <;> exact hk.elim
    · exact hk.elim
  | u :: v :: w :: y :: r, .cons r1 (.cons r2 (.cons r3 (.cons r4 r5))), hk =>
    simp only [parS] at hk
    split at hk
    · split at hk
      · split at hk <;> exact hk.elim
      · exact hk.elim
    · exact hk.elim
end
end EV

set_option Elab.async false
set_option linter.all false
set_option maxRecDepth 100000
set_option maxHeartbeats 4000000
/-! EV, part O: statements, by induction on them. -/
namespace EV
open PySem PySem.Spec PyProof.Rows L2
section
variable {ad : Nat → Addr} {XR : Xc → Value → Option Addr → Hp → Hp → Prop} {W : Wd} {C : Cal} {n : Wn} {N : List Str} {lv : Nat} {Wi : XK}
theorem sws_tup {e : Expr} {es : List Expr} {k : Nat} {p : Pos} {l : Nat} {env : Env} : swapsWithSole [.Tuple es k p] e l env = pure false := by cases e <;> rfl
theorem sws_sub {e o i : Expr} {p : Pos} {l : Nat} {env : Env} : swapsWithSole [.Subscript o i p] e l env = pure false := by cases e <;> rfl
theorem swp_sub {e o i : Expr} {p : Pos} {env : Env} : swappedStores [.Subscript o i p] e env = pure none := by cases e <;> rfl
theorem frzS_at {n : Nat} {xs : List D} : ∀ (s : Slots) (j : Nat) (v : Vl), (frzS n xs s)[j]? = some (some v) → (s[j]? = some (some (.loc n)) ∧ v = .dat (.lst xs)) ∨ (s[j]? = some (some v) ∧ v ≠ .loc n)
  | [], j, v, h => by simp [frzS] at h
  | some (.loc k) :: r, 0, v, h => by
    simp only [frzS, List.getElem?_cons_zero, Option.some.injEq] at h
    split at h
    · rename_i q
      cases h
      exact .inl ⟨by simp [q], rfl⟩
    · rename_i q
      cases h
      exact .inr ⟨rfl, fun z => q (by cases z; rfl)⟩
  | some (.dat d) :: r, 0, v, h => by
    simp only [frzS, List.getElem?_cons_zero, Option.some.injEq] at h
    cases h
    exact .inr ⟨rfl, fun z => by cases z⟩
  | none :: r, 0, v, h => by simp [frzS] at h
  | some (.loc k) :: r, j + 1, v, h => by
    simp only [frzS, List.getElem?_cons_succ] at h ⊢
    exact frzS_at r j v h
  | some (.dat d) :: r, j + 1, v, h => by
    simp only [frzS, List.getElem?_cons_succ] at h ⊢
    exact frzS_at r j v h
  | none :: r, j + 1, v, h => by
    simp only [frzS, List.getElem?_cons_succ] at h ⊢
    exact frzS_at r j v h
theorem frzS_len {n : Nat} {xs : List D} : ∀ (s : Slots), (frzS n xs s).length = s.length
  | [] => rfl
  | some (.loc k) :: r => by simp [frzS, frzS_len r]
  | some (.dat d) :: r => by simp [frzS, frzS_len r]
  | none :: r => by simp [frzS, frzS_len r]
theorem live_nil {m : Sto} {i j : Nat} (h : live (m.set i .nil) j) : live m j ∧ i ≠ j := by
  rw [live_set] at h
  split at h
  · obtain ⟨_, _, q⟩ := h; cases q
  · rename_i z; exact ⟨h, z⟩
theorem nil_at {m : Sto} {i j : Nat} {xs : List D} (h : (m.set i .nil)[j]? = some (.lst xs)) : m[j]? = some (.lst xs) ∧ i ≠ j := by
  obtain ⟨⟨ys, q⟩, ne⟩ := live_nil (⟨xs, h⟩ : live (m.set i .nil) j)
  rw [List.getElem?_set_ne ne] at h
  exact ⟨h, ne⟩
theorem sf_frz {X : Cx} {b i : Nat} {r : List EV.St} {r' : List Stmt} (h : PSs X r' (tSs X.K ad XR Wi W C b r)) : PSs X r' (tSs X.K ad XR Wi W C b (.frz i :: r)) := by
  refine h.imp fun D σ H ⟨s, L, m, F, hs, hm, hb, h⟩ => ?_
  simp only [exs, exS] at h
  cases el : locAt s i with
  | none =>
    rw [el] at h
    exact ⟨s, L, m, F, hs, hm, hb, h⟩
  | some k =>
    rw [el] at h
    dsimp only at h
    split at h
    case isFalse => exact h.elim
    case isTrue hk =>
    cases em : m[k]? with
    | none => rw [em] at h; exact h.elim
    | some o =>
      rw [em] at h
      cases o with
      | nil => exact h.elim
      | lst xs =>
        simp only [R.bind_ok] at h
        obtain ⟨p, vs, q1, q2, q3, q4⟩ := hm.obj k xs em
        have lk : live m k := ⟨xs, em⟩
        have m1 : StoR X.K ad L (m.set k .nil) F H := ⟨hm.sub, fun j ys e => hm.obj j ys (nil_at e).1, fun a c d la lc => hm.inj a c d (live_nil la).1 (live_nil lc).1, by rw [List.length_set]; exact hm.len⟩
        have no : ¬ Own L (m.set k .nil) p := fun ⟨j, lj, ej⟩ => (live_nil lj).2 (hm.inj k j p lk (live_nil lj).1 q1 ej)
        have m2 := StoR.frz m1 no q2 q3
        have sl : SltR X.K ad L (upd F p (.lst vs)) (frzS k xs s) σ := ⟨by rw [frzS_len]; exact hs.len, fun j v e => by
          rcases frzS_at s j v e with ⟨e1, rfl⟩ | ⟨e1, ne⟩
          · obtain ⟨x, w1, a, w2, rfl⟩ := hs.at_ j _ e1
            rw [q1] at w2; cases w2
            exact ⟨_, w1, .lst upd_same (q4.mono (sub_upd q2))⟩
          · exact (hs.mono (sub_upd q2)).at_ j v e1⟩
        refine ⟨frzS k xs s, L, m.set k .nil, _, sl, m2, by rw [List.length_set]; exact hb, HoldS.step (b := b) ?_ h⟩
        refine ⟨sub_upd q2, fun a o e _ => e, fun j hj => ⟨rfl, ?_⟩, by rw [List.length_set], fun a => ?_, fun a o e => ⟨o, e⟩, fun a ⟨j, hj, l, e⟩ => .inl ⟨j, hj, (live_nil l).1, e⟩⟩
        · rw [live_set, if_neg (by omega)]
        · by_cases q : a = p
          · subst q; exact .inr (.inr ⟨k, hk, lk, q1⟩)
          · rw [upd_ne q]; exact .inl rfl
theorem aug_two {op : Operator} (h : augB op = true) : op = .Add ∨ op = .Sub := by
  cases op <;> first | exact .inl rfl | exact .inr rfl | cases h
mutual
theorem snd_S : ∀ (x : EV.St) (X : Cx) (sc : Scope) (b : Nat), SO X N sc Wi lv → GO X.K ad XR W C X.prog X.w X.mg X.base n lv → ∀ x' : Stmt, matS W n N sc x x' = true → PS X x' (tS X.K ad XR Wi W C b x)
  | x, X, sc, b, S, G, x', h => by
    unfold matS at h
    split at h
    · -- set name
      simp only [Bool.and_eq_true] at h
      exact (snd_asgE S G h.1.1 h.1.2 h.2).imp fun D σ H q => set_read q
    · -- set tuple
      simp only [Bool.and_eq_true] at h
      obtain ⟨⟨h1, h2⟩, h3⟩ := h
      exact (ps_asg (snd_E _ X sc Wi S.toXO G _ h2) (pg_d S.toXO S.stb _ _ h1) sws_tup (swpT_of S.es S.kd h3) rfl).imp fun D σ H q => setT_read q
    · -- a, b = x, y
      simp only [Bool.and_eq_true, decide_eq_true_eq] at h
      obtain ⟨⟨⟨⟨⟨⟨h1, h2⟩, h3⟩, h4⟩, h5⟩, h6⟩, h7⟩ := h
      have es := S.es
      exact (ps_par S.calm (by rw [S.nm]; exact S.nd) (S.at_ h1) (S.at_ h2) h3 (by rw [es]; exact isKind_of h5) (by rw [es]; exact isKind_of h6) (snd_Es _ X sc Wi S.toXO G _ h4) (swp_of es S.kd h7) rfl).imp fun D σ H q => par2_read q
    · -- a, b, c = x, y, z
      simp only [Bool.and_eq_true, decide_eq_true_eq] at h
      obtain ⟨⟨⟨⟨⟨⟨⟨⟨⟨⟨h1, h2⟩, h3⟩, h4⟩, h5⟩, h6⟩, h7⟩, h8⟩, h9⟩, h10⟩, h11⟩ := h
      have es := S.es
      exact (ps_par3 S.calm (by rw [S.nm]; exact S.nd) (S.at_ h1) (S.at_ h2) (S.at_ h3) h4 h5 h6 (by rw [es]; exact isKind_of h8) (by rw [es]; exact isKind_of h9) (by rw [es]; exact isKind_of h10) (snd_Es _ X sc Wi S.toXO G _ h7) (swp_of es S.kd h11) rfl).imp fun D σ H q => par3_read q
    · -- new list
      simp only [Bool.and_eq_true] at h
      exact (snd_asgN S G h.1.1.1 h.1.1.2 h.1.2 h.2).imp fun D σ H q => newl_read q
    · -- x[i] = e
      simp only [Bool.and_eq_true, Bool.not_eq_true'] at h
      obtain ⟨⟨⟨⟨⟨h1, h2⟩, h3⟩, h4⟩, h5⟩, h6⟩ := h
      obtain ⟨o1, o2, _⟩ := okNm_of h3
      exact (ps_asg (snd_E _ X sc Wi S.toXO G _ h6) (pg_sub (pe_var (S.at_ h1) (S.vis h2) o1 o2) (snd_E _ X sc Wi S.toXO G _ h4) set_list (slice_asg h5)) sws_sub swp_sub rfl).imp fun D σ H q => sset_read q
    · -- x.append(e)
      simp only [Bool.and_eq_true, Bool.not_eq_true', decide_eq_true_eq] at h
      obtain ⟨⟨⟨⟨⟨⟨h1, h2⟩, h3⟩, rfl⟩, h5⟩, h6⟩, h7⟩ := h
      obtain ⟨o1, o2, _⟩ := okNm_of h3
      exact sf_app (pe_var (S.at_ h1) (S.vis h2) o1 o2) (snd_E _ X sc Wi S.toXO G _ h7) h5 h6
    · -- x += e
      simp only [Bool.and_eq_true, decide_eq_true_eq] at h
      obtain ⟨⟨⟨⟨h1, h2⟩, h3⟩, h4⟩, h5⟩ := h
      subst h3
      obtain ⟨l1, l2⟩ := S.stb _ h2
      have pe := snd_E _ X sc Wi S.toXO G _ h5
      have nd : X.N.Nodup := by rw [S.nm]; exact S.nd
      rcases aug_two h4 with rfl | rfl
      · exact (ps_aug nd (S.at_ h1) l1 pe ip_add l2).imp fun D σ H q => aug_read q (.inl ⟨rfl, rfl⟩)
      · exact (ps_aug nd (S.at_ h1) l1 pe ip_sub l2).imp fun D σ H q => aug_read q (.inr ⟨rfl, rfl⟩)
    · -- if
      simp only [Bool.and_eq_true] at h
      exact sf_ife (snd_T _ X sc Wi S.toXO G _ h.1.1) (snd_Ss _ X sc b S G _ h.1.2) (snd_Ss _ X sc b S G _ h.2)
    · simp only [Bool.and_eq_true] at h
      exact sf_whl S.own (snd_T _ X sc Wi S.toXO G _ h.1) (snd_Ss _ X sc b S G _ h.2)
    · simp only [Bool.and_eq_true, Bool.not_eq_true'] at h
      obtain ⟨⟨⟨⟨h1, h2⟩, h3⟩, h4⟩, h5⟩ := h
      exact sf_for S.own S.calm (pi_all S.toXO G h2 h3 (snd_Es _ X sc Wi S.toXO G _ h3) (snd_H _ X sc Wi S.toXO G)) (pg_d S.toXO S.stb _ _ h1) (snd_Ss _ X sc b S G _ h5) h4
    · exact sf_ret (snd_E _ X sc Wi S.toXO G _ h)
    · exact sf_retn
    · simp only [Bool.and_eq_true] at h
      exact sf_retf (snd_N S.toXO G h.1 h.2)
    · exact sf_brk
    · exact sf_ctn
    · exact sf_pass
    · simp only [Bool.and_eq_true, Bool.not_eq_true'] at h
      exact sf_exp (snd_E _ X sc Wi S.toXO G _ h.2) (sw_plain h.1 _ _ _)
    · exact sf_never
    · cases h
theorem snd_Ss : ∀ (x : List EV.St) (X : Cx) (sc : Scope) (b : Nat), SO X N sc Wi lv → GO X.K ad XR W C X.prog X.w X.mg X.base n lv → ∀ x' : List Stmt, matSs W n N sc x x' = true → PSs X x' (tSs X.K ad XR Wi W C b x)
  | [], X, sc, b, S, G, x', h => by
    cases x' with
    | nil => exact sf_nil
    | cons => simp [matSs] at h
  | x :: r, X, sc, b, S, G, x', h => by
    unfold matSs at h
    split at h
    · rename_i e2; cases e2
    · rename_i e1; cases e1
      exact sf_frz (snd_Ss r X sc b S G _ h)
    · rename_i e1; cases e1
      simp only [Bool.and_eq_true] at h
      exact sf_cons (snd_S x X sc b S G _ h.1) (snd_Ss r X sc b S G _ h.2)
    · cases h
end
end
end EV

set_option Elab.async false
set_option linter.all false
set_option maxRecDepth 100000
set_option maxHeartbeats 4000000
/-! EV, part P: defs. -/
namespace EV
open PySem PySem.Spec PyProof.Rows L2
section
variable {K : PySem.W.Frag} {ad : Nat → Addr} {XR : Xc → Value → Option Addr → Hp → Hp → Prop} {L L' Lc : List Addr} {m m' : Sto} {F H F' H' : Hp} {c : Nat}
/-! ### the store at a def's entry and end -/
theorem pad_live {i : Nat} : live (m ++ List.replicate c MO.nil) i ↔ live m i := by
  unfold live
  by_cases h : i < m.length
  · rw [List.getElem?_append_left h]
  · rw [List.getElem?_append_right (by omega), List.getElem?_eq_none (show m.length ≤ i by omega)]
    constructor
    · rintro ⟨xs, e⟩
      rw [List.getElem?_replicate] at e
      split at e <;> cases e
    · rintro ⟨xs, e⟩; cases e
theorem live_lt {i : Nat} (h : live m i) : i < m.length := let ⟨_, e⟩ := h; (List.getElem?_eq_some_iff.mp e).1
theorem pad_sto (st : StoR K ad L m F H) : StoR K ad (L ++ List.replicate c 0) (m ++ List.replicate c MO.nil) F H where
  sub := st.sub
  obj := fun i xs e => by
    have l := pad_live.mp (⟨xs, e⟩ : live (m ++ List.replicate c MO.nil) i)
    have hi := live_lt l
    rw [List.getElem?_append_left hi] at e
    obtain ⟨a, vs, e1, e2⟩ := st.obj i xs e
    exact ⟨a, vs, by rw [List.getElem?_append_left (by rw [st.len]; exact hi)]; exact e1, e2⟩
  inj := fun i j a li lj ei ej => by
    have hi := live_lt (pad_live.mp li)
    have hj := live_lt (pad_live.mp lj)
    rw [← st.len] at hi hj
    rw [List.getElem?_append_left hi] at ei
    rw [List.getElem?_append_left hj] at ej
    exact st.inj i j a (pad_live.mp li) (pad_live.mp lj) ei ej
  len := by rw [List.length_append, List.length_append, List.length_replicate, List.length_replicate, st.len]
theorem cut_live {b i : Nat} : live (m.take b) i ↔ i < b ∧ live m i := by
  unfold live
  rw [List.getElem?_take]
  by_cases h : i < b
  · simp [h]
  · simp [h]
theorem cut_ext (st : StoR K ad L m F H) (e : ExtS m.length (L ++ List.replicate c 0) (m ++ List.replicate c MO.nil) F H L' m' F' H') : Ext L m F H (m'.take m.length) F' H' where
  sub := e.sub
  keep := fun a o h n => e.keep a o h fun ⟨i, l, q⟩ => n ⟨i, pad_live.mp l, by
    rw [List.getElem?_append_left (by rw [st.len]; exact live_lt (pad_live.mp l))] at q
    exact q⟩
  own := fun i => by
    rw [cut_live]
    constructor
    · rintro ⟨h, l⟩
      exact pad_live.mp ((e.base i h).2.mp l)
    · intro l
      have h := live_lt l
      exact ⟨h, (e.base i h).2.mpr (pad_live.mpr l)⟩
  len := by
    rw [List.length_take, e.len, List.length_append]
    omega
  fresh := fun a => by
    rcases e.fresh a with q | q | ⟨i, hi, l, _⟩
    · exact .inl q
    · exact .inr q
    · have := live_lt (pad_live.mp l)
      omega
  there := e.there
theorem cut_sto (st : StoR K ad L m F H) (e : ExtS m.length (L ++ List.replicate c 0) (m ++ List.replicate c MO.nil) F H L' m' F' H') (st' : StoR K ad L' m' F' H') : StoR K ad L (m'.take m.length) F' H' := by
  have same : ∀ i, i < m.length → L'[i]? = L[i]? := fun i h => by
    rw [(e.base i h).1, List.getElem?_append_left (by rw [st.len]; exact h)]
  refine ⟨st'.sub, fun i xs q => ?_, fun i j a li lj ei ej => ?_, ?_⟩
  · have h := (cut_live.mp (⟨xs, q⟩ : live (m'.take m.length) i)).1
    rw [List.getElem?_take, if_pos h] at q
    obtain ⟨a, vs, e1, e2⟩ := st'.obj i xs q
    exact ⟨a, vs, by rw [← same i h]; exact e1, e2⟩
  · obtain ⟨hi, li⟩ := cut_live.mp li
    obtain ⟨hj, lj⟩ := cut_live.mp lj
    rw [← same i hi] at ei
    rw [← same j hj] at ej
    exact st'.inj i j a li lj ei ej
  · rw [List.length_take, e.len, List.length_append, st.len]
    omega
theorem cut_rel {H0 : Hp} {v : RV} {x : V} (st : StoR K ad L m F H) (e : ExtS m.length (L ++ List.replicate c 0) (m ++ List.replicate c MO.nil) F H L' m' F' H') (ho : outOk m.length v = true) (r : relR K ad L' H0 F' H' v x) : relR K ad L H0 F' H' v x := by
  cases v with
  | new xs => exact r
  | vl v =>
    cases v with
    | dat d => exact r
    | loc k =>
      have hk : k < m.length := of_decide_eq_true ho
      obtain ⟨a, e1, e2⟩ := r
      refine ⟨a, ?_, e2⟩
      rw [(e.base k hk).1, List.getElem?_append_left (by rw [st.len]; exact hk)] at e1
      exact e1
theorem VlRs.app : ∀ {vs ws : List Vl} {xs ys : List V}, VlRs K ad L F vs xs → VlRs K ad L F ws ys → VlRs K ad L F (vs ++ ws) (xs ++ ys)
  | _, _, _, _, .nil, h => h
  | _, _, _, _, .cons a b, h => .cons a (VlRs.app b h)
theorem VlRs.of_dat : ∀ {xs : List V} {ds : List D}, RpA K ad F xs ds → VlRs K ad L F (ds.map Vl.dat) xs
  | _, _, .nil => .nil
  | _, _, .cons a b => .cons a (VlRs.of_dat b)
theorem VlRs.get : ∀ {vs : List Vl} {xs : List V} {i : Nat} {v : Vl}, VlRs K ad L F vs xs → vs[i]? = some v → ∃ x, xs[i]? = some x ∧ VlR K ad L F v x
  | _, _, _, _, .nil, e => by simp at e
  | _, _, 0, _, .cons a _, e => by simp at e; subst e; exact ⟨_, rfl, a⟩
  | _, _, i + 1, _, .cons _ b, e => by
    obtain ⟨x, h1, h2⟩ := VlRs.get (i := i) b (by simpa using e)
    exact ⟨x, by simpa using h1, h2⟩
theorem VlRs.pad (e : VlR K ad L F = VlR K ad L F) : ∀ {vs : List Vl} {xs : List V}, VlRs K ad L F vs xs → VlRs K ad (L ++ Lc) F vs xs
  | _, _, .nil => .nil
  | _, _, .cons (v := v) a b => .cons (by
    cases v with
    | dat d => exact a
    | loc k =>
      obtain ⟨p, e1, e2⟩ := a
      exact ⟨p, by rw [List.getElem?_append_left (List.getElem?_eq_some_iff.mp e1).1]; exact e1, e2⟩) (VlRs.pad e b)
theorem slt_start {vs : List Vl} {xs : List V} {N : List Str} {ns np : Nat} (r : VlRs K ad L F vs xs) (hn : N.length = ns) (hp : vs.length = np) : SltR K ad L F (vs.map some ++ List.replicate (ns - np) none) (L2.start N xs) where
  len := by
    unfold L2.start
    rw [List.length_append, List.length_append, List.length_map, List.length_map, List.length_replicate, List.length_replicate, ← r.len, hn, hp]
  at_ := fun i v e => by
    by_cases h : i < vs.length
    · rw [List.getElem?_append_left (by rw [List.length_map]; exact h), List.getElem?_map] at e
      cases q : vs[i]? with
      | none => rw [q] at e; cases e
      | some u =>
        rw [q] at e
        cases e
        obtain ⟨x, e1, r1⟩ := r.get q
        refine ⟨x, ?_, r1⟩
        unfold L2.start
        rw [List.getElem?_append_left (by rw [List.length_map, ← r.len]; exact h), List.getElem?_map, e1]
        rfl
    · rw [List.getElem?_append_right (by rw [List.length_map]; omega), List.getElem?_replicate] at e
      split at e <;> cases e
end
/-! ### what must be known of a def -/
def fnScB (N ps : List Str) (sc : Scope) : Bool :=
  (match sc.kind with | .function => true | _ => false) && !sc.isCoroutine && !sc.isGenerator && decide N.Nodup && decide (N.take ps.length = ps) && ps.all (locB sc) && sc.names.all (fun y => match y.2 with | .free => false | _ => true)
theorem fnSc_of {N ps : List Str} {sc : Scope} (h : fnScB N ps sc = true) : FnScope N ps sc := by
  simp only [fnScB, Bool.and_eq_true, Bool.not_eq_true', decide_eq_true_eq, List.all_eq_true] at h
  obtain ⟨⟨⟨⟨⟨⟨h1, h2⟩, h3⟩, h4⟩, h5⟩, h6⟩, h7⟩ := h
  refine ⟨?_, h2, h3, h4, h5, fun x hx => ?_, fun y hy e => ?_⟩
  · split at h1
    · assumption
    · cases h1
  · have := locB_of (h6 x hx)
    exact this
  · have := h7 y hy
    rw [e] at this
    cases this
/-- how n written arguments are bound -/
def BindN (K : PySem.W.Frag) (fd : FuncData) (ps : List Str) (dvs : List V) : Prop :=
  ∀ n, n ≤ ps.length → ps.length ≤ n + dvs.length → ∃ ds, Vals (dvs.drop (n + dvs.length - ps.length)) ds ∧ Binds K fd ps ds
structure FnA (K : PySem.W.Frag) (ad : Nat → Addr) (W : Wd) (n : Wn) (N ps : List Str) (qual : Str) (body : List Stmt) (scope : Scope) (f : Fn) (a : Addr) : Prop where
  sc : fnScB N ps scope = true
  mat : matSs W n N scope f.body body = true
  np : ps.length = f.np
  ns : N.length = f.ns
  fun_ : ∃ (name : Str) (params : Arguments) (dV kV doc pm cdv ct oc : Value) (an od : Option Addr) (osl : Array (Option Value)) (dvs : List V),
    K.lookup a = some ⟨oc, od, .func (PySem.W.fnOf name qual params body scope dV kV doc pm an cdv ct), osl⟩ ∧ PySem.W.codeIn K cdv qual = true ∧
    dvs.length = f.dfl.length ∧ (∀ F, RpA K ad F dvs f.dfl) ∧ BindN K (PySem.W.fnOf name qual params body scope dV kV doc pm an cdv ct) ps dvs
section
variable {K : PySem.W.Frag} {ad : Nat → Addr} {XR : Xc → Value → Option Addr → Hp → Hp → Prop} {W : Wd} {C : Cal} {n : Wn} {N ps : List Str} {lv : Nat} {P : Program} {w : World} {mg : Str → Option Value} {base : Heap}
theorem fn_run {qual : Str} {body : List Stmt} {scope : Scope} {f : Fn} {a : Addr} (T : FnA K ad W n N ps qual body scope f a) (G : GO K ad XR W C P w mg base n lv) : FnG K ad XR P w mg base (lv + 1) a (runF W C f) := by
  intro A outer s H us vs Q E L m F as room grd e0 rv st ra hold
  obtain ⟨name, params, dV, kV, doc, pm, cdv, ct, oc, an, od, osl, dvs, lk, hcd, dl, dr, bind⟩ := T.fun_
  have S := fnSc_of T.sc
  have kin0 : K.In s.heap := (e0.mod.kin).keeps fun p o q => (e0.bs p o q).1
  have lim0 : s.heap.NoLimit := (e0.mod.nolimit).keeps fun p o q => (e0.bs p o q).1
  unfold runF at hold
  dsimp only at hold
  split at hold
  case isFalse => exact hold.elim
  case isTrue hlen =>
  have la : as.length = us.length := by rw [ra.len, rv.length]
  have lv0 : vs.length = us.length := rv.length
  rw [List.length_append, List.length_map, List.length_drop] at hlen
  obtain ⟨ds, rd, hb⟩ := bind as.length (by rw [T.np]; omega) (by rw [T.np, dl]; omega)
  have ej : as.length + dvs.length - ps.length = as.length + f.dfl.length - f.np := by rw [dl, T.np]
  rw [ej] at rd
  have rall : Vals (vs ++ dvs.drop (as.length + f.dfl.length - f.np)) (us ++ ds) := rv.append rd
  have lall : (us ++ ds).length = ps.length := by
    rw [← rall.length, List.length_append, List.length_drop, T.np, dl]
    omega
  have hkind : ∀ y ∈ ps.zip (us ++ ds), scope.names.lookup y.1 = some .local ∨ (scope.names.lookup y.1 = some .cell ∧ ((cellsFrom (s.heap.objs.size + 1) scope.names []).lookup y.1).isSome = true) := by
    rintro ⟨p, v⟩ hy
    rcases S.par p (List.of_mem_zip hy).1 with q | q
    · left; exact q
    · right; exact ⟨q, PySem.W.cellsFrom_some _ _ _ (.inl q)⟩
  have bnd : BindsTo s (PySem.W.fnOf name qual params body scope dV kV doc pm an cdv ct) ⟨us, []⟩ (ps.zip (us ++ ds)) := hb s us kin0 lall
  refine codeAny_call_function room.depth (kin0 _ _ lk) rfl S.co S.gen rfl (PySem.W.codeRec_of kin0 hcd) (bnd _ _ _ _ ?_)
  refine wpAny_newFunctionEnv_cells S.kind hkind fun env' he s2 ic => ?_
  subst he
  refine ⟨lim0.keeps ic.toInCall.keep, codeAny_func ?_⟩
  have J0 := inv_start (CX := L2.CX P w) (E := E) S room.hd e0 (show (vs ++ dvs.drop (as.length + f.dfl.length - f.np)).length = ps.length by rw [rall.length, lall]) rall ic
  have roomD := room.deeper (envOfC qual scope s.heap.objs.size a cdv)
  have X0 : SO (cxOf (L2.CX P w) P w K mg base N qual scope a cdv A outer s H E) N scope E lv := {
    nm := rfl, es := rfl, nd := S.nd, calm := rfl, room := roomD, grd := grd, tk := takes_of rfl rfl rfl rfl, kd := S.kind, own := passes_of rfl
    stb := fun x hx => ⟨locB_of hx, .inl rfl⟩ }
  have bodyR := snd_Ss (ad := ad) (XR := XR) (C := C) f.body _ scope m.length X0 G body T.mat
  have slt : SltR K ad (L ++ List.replicate f.nc 0) F ((as ++ (f.dfl.drop (as.length + f.dfl.length - f.np)).map Vl.dat).map some ++ List.replicate (f.ns - f.np) none) (L2.start N (vs ++ dvs.drop (as.length + f.dfl.length - f.np))) :=
    slt_start (VlRs.app (VlRs.pad rfl ra) (VlRs.of_dat ((dr F).drop _))) T.ns (by rw [List.length_append, List.length_map, List.length_drop]; exact hlen)
  have sto := pad_sto (c := f.nc) st
  have go : HoldS K ad XR E (exs W C m.length f.body ((as ++ (f.dfl.drop (as.length + f.dfl.length - f.np)).map Vl.dat).map some ++ List.replicate (f.ns - f.np) none) (m ++ List.replicate f.nc .nil)) m.length (L ++ List.replicate f.nc 0) (m ++ List.replicate f.nc .nil) F H { nx := fun _ H' => Q .non H', rt := Q } := by
    cases q : exs W C m.length f.body ((as ++ (f.dfl.drop (as.length + f.dfl.length - f.np)).map Vl.dat).map some ++ List.replicate (f.ns - f.np) none) (m ++ List.replicate f.nc .nil) with
    | ok o m' =>
      rw [q] at hold
      cases o with
      | nx s' => exact fun L' F' H' σ' ex st' _ => hold F' H' .non (cut_ext st ex) (cut_sto st ex st') .non
      | ret v =>
        dsimp only at hold
        split at hold
        case isFalse => exact hold.elim
        case isTrue ho => exact fun L' F' H' x ex st' r => hold F' H' x (cut_ext st ex) (cut_sto st ex st') (cut_rel st ex ho r)
      | brk s' => exact hold.elim
      | ctn s' => exact hold.elim
    | exc x m' =>
      rw [q] at hold
      exact fun L' F' H' cl d ex st' r => hold F' H' cl d (cut_ext st ex) (cut_sto st ex st') r
    | bad => rw [q] at hold; exact hold
  refine wpAny_mono (bodyR.run [] s2 _ H _ J0 ⟨_, _, _, F, slt, sto, by rw [List.length_append]; omega, go⟩) (fun fl s3 hs => ?_) fun _ _ z => z
  cases fl with
  | next =>
    obtain ⟨τ, H3, J, q⟩ := hs
    exact ⟨V.non, H3, J.os, J.bare, J.base, J.hok, rfl, q⟩
  | ret u =>
    obtain ⟨v, τ, H3, J, rvu, q⟩ := hs
    exact ⟨v, H3, J.os, J.bare, J.base, J.hok, rvu, q⟩
  | brk => obtain ⟨_, _, _, z⟩ := hs; exact z.elim
  | cont => obtain ⟨_, _, _, z⟩ := hs; exact z.elim
end
end EV

set_option Elab.async false
set_option linter.all false
set_option maxRecDepth 100000
set_option maxHeartbeats 4000000
/-! EV, part Q: all defs of a table; the law. -/
namespace EV
open PySem PySem.Spec PyProof.Rows L2
section
variable {K : PySem.W.Frag} {ad : Nat → Addr} {XR : Xc → Value → Option Addr → Hp → Hp → Prop} {W : Wd} {n : Wn} {P : Program} {w : World} {mg : Str → Option Value} {base : Heap}
/-- the module's table, as the top has left it -/
structure Tab (K : PySem.W.Frag) (ad : Nat → Addr) (W : Wd) (n : Wn) (mg : Str → Option Value) : Prop where
  con : ∀ (g : Nat) (p : Str × D), W.con[g]? = some p → ∃ v u, mg p.1 = some u ∧ RelV v u ∧ ∀ F, Rp K ad F v p.2
  bs : ∀ x, n.bs.contains x = true → mg x = none
  fn : ∀ (k : Nat) (x : Str), n.fnm[k]? = some x → mg x = some (.ref (ad k)) ∧ PySem.W.keepIn K (.ref (ad k)) = true
  fa : ∀ (k : Nat) (x : Str) (f : Fn), n.fnm[k]? = some x → W.fn[k]? = some f → ∃ N ps qual body scope, FnA K ad W n N ps qual body scope f (ad k)
theorem tab_go (P : Program) (w : World) (base : Heap) (T : Tab K ad W n mg) : ∀ lv : Nat, GO K ad XR W (callF W lv) P w mg base n lv
  | 0 => ⟨T.con, T.bs, T.fn, fun k x hk A outer s H us vs Q E L m F as _ _ _ _ _ _ h => by
    have h' : Hold K ad XR E (relR K ad L H) .bad L m F H Q := h
    exact h'.elim⟩
  | lv + 1 => ⟨T.con, T.bs, T.fn, fun k x hk => by
    cases e : W.fn[k]? with
    | none =>
      intro A outer s H us vs Q E L m F as _ _ _ _ _ _ h
      simp only [callF, e] at h
      exact h.elim
    | some f =>
      obtain ⟨N, ps, qual, body, scope, fa⟩ := T.fa k x f hk e
      have g := fn_run (XR := XR) fa (tab_go P w base T lv)
      have ec : callF W (lv + 1) k = runF W (callF W lv) f := by
        funext vs m
        simp only [callF, e]
      rw [ec]
      exact g⟩
end
/-- no exception is told of -/
def noXR : Xc → Value → Option Addr → Hp → Hp → Prop := fun _ _ _ _ _ => False
theorem ints_rp {K : PySem.W.Frag} {ad : Nat → Addr} {F : Hp} : ∀ ns : List Int, RpA K ad F (ns.map V.int) (ns.map D.int)
  | [] => .nil
  | i :: r => .cons (.int i) (ints_rp r)
/-- the law's call, over the heap that the top has left -/
theorem law_at {P : Program} {w : World} {K : PySem.W.Frag} {ad : Nat → Addr} {W : Wd} {n : Wn} {mg mb : Str → Option Value} {lv k : Nat} {a : Addr} {s1 : Shared} {vs : List Value} {ns : List Int} {x : Str}
    (T : Tab K ad W n mg) (hk : n.fnm[k]? = some x) (kin : K.In s1.heap) (hmg : s1.heap.Ns mainGlobals mg) (hmb : s1.heap.Ns builtinsNs mb) (hbt : ∀ y : Str, y ≠ "__name__" → mb y = bootBuiltins y) (nol : s1.heap.NoLimit) (gens : s1.gens = #[])
    (obj : s1.heap.get? a = some { cls := .type "list", data := .seq vs.toArray }) (hi0 : IntsAre vs ns) (short : ns.length ≤ sizeLine) (room : Room lv callerA)
    (law : callF W lv k [.dat (.scr (ns.map .int))] [] = .ok (.vl (.dat (.bl true))) []) :
    codeAny (model P w) callerA (.call (.ref (ad k)) ⟨[.ref a], []⟩) (fun r s' => r = .ok (.ret (.bool true)) ∧ OldK s1.heap s'.heap ∧ s'.os = s1.os ∧ AllBare s'.gens) s1 := by
  have rel := vals_ints hi0
  -- H: the script, where it is no object of the module
  obtain ⟨H, sq, ok, only, wh⟩ : ∃ H : Hp, SqL K H a (ns.map V.int) ∧ HOk P w H s1.heap ∧ (∀ p u, H p = some u → p = a ∧ ∃ xs, u = .frz { cls := .type "list", data := .seq vs.toArray } (.lst xs)) ∧ (H a ≠ none → K.lookup a = none) := by
    cases look : K.lookup a with
    | some o =>
      have eo := kin a o look
      rw [obj] at eo
      cases eo
      exact ⟨fun _ => none, .inr ⟨_, vs.toArray, _, look, rfl, rfl, rfl, by rw [List.size_toArray, hi0.length]; exact short, by simpa using rel⟩, fun _ _ z => (by cases z), fun _ _ z => (by cases z), fun z => (z rfl).elim⟩
    | none =>
      let H0 : Hp := fun p => if p = a then some (.frz { cls := .type "list", data := .seq vs.toArray } (.lst (ns.map V.int))) else none
      have at0 : H0 a = some (.frz { cls := .type "list", data := .seq vs.toArray } (.lst (ns.map V.int))) := if_pos rfl
      have of0 : ∀ p u, H0 p = some u → p = a ∧ u = .frz { cls := .type "list", data := .seq vs.toArray } (.lst (ns.map V.int)) := fun p u z => by
        by_cases hp : p = a
        · subst hp
          rw [at0] at z
          exact ⟨rfl, (Option.some.inj z).symm⟩
        · have e : H0 p = none := if_neg hp
          rw [e] at z; cases z
      refine ⟨H0, .inl (.inr ⟨_, at0⟩), fun p u z => ?_, fun p u z => ?_, fun _ => rfl⟩
      · obtain ⟨rfl, rfl⟩ := of0 p u z
        exact ⟨obj, by rw [List.length_map]; exact short, vs, _, rel, obj⟩
      · obtain ⟨e1, e2⟩ := of0 p u z
        exact ⟨e1, _, e2⟩
  have low : ∀ {p : Addr} {o : Obj}, s1.heap.get? p = some o → H p = none → (hidT s1.heap H).get? p = some o := fun e z => hidT_get e z
  have dict0 : ∀ {p : Addr} {o : Obj} {es : Array DictEntry} {ep : Nat}, s1.heap.get? p = some o → o.data = .dict es ep → H p = none := fun {p o es ep} e d => by
    cases q : H p with
    | none => rfl
    | some u =>
      obtain ⟨rfl, _⟩ := only p u q
      rw [obj] at e; cases e
      cases d
  have spaces : ∀ {p : Addr} {f : Str → Option Value}, s1.heap.Ns p f → (hidT s1.heap H).Ns p f := fun {p f} ⟨o, es, ep, e, d, r⟩ => ⟨o, es, ep, low e (dict0 e d), d, r⟩
  have kinB : K.In (hidT s1.heap H) := fun p o e => low (kin p o e) (by
    cases q : H p with
    | none => rfl
    | some u =>
      obtain ⟨rfl, _⟩ := only p u q
      rw [wh (by rw [q]; simp)] at e; cases e)
  have modB : Mod K mg (hidT s1.heap H) := ⟨kinB, spaces hmg, ⟨mb, spaces hmb, hbt⟩, let ⟨f, h1, h2⟩ := nol; ⟨f, spaces h1, h2⟩⟩
  have env0 : Env0 P w K mg (hidT s1.heap H) callerA [] s1 H := ⟨rfl, modB, fun p o e => of_hidT e, Nat.le_of_eq (hidT_size _ _), trivial, fun p hp => (by cases hp), ok, .of_eq gens⟩
  have G := tab_go (XR := noXR) P w (hidT s1.heap H) T lv
  have st : StoR K ad [] [] H H := ⟨Sub.refl _, fun i xs e => (by simp at e), fun i j p ⟨_, e⟩ => (by simp at e), rfl⟩
  have run := G.run k x hk callerA [] s1 H [.ref a] [.ref a] (fun v _ => v = .bl true) (fun _ _ _ => False) [] [] H [.dat (.scr (ns.map .int))] room rfl env0 (.cons rfl .nil) st (.cons (.scr sq (ints_rp ns)) .nil) (by
    rw [law]
    intro F' H' y _ _ r
    have r' : Rp K ad F' y (.bl true) := r
    cases r'
    rfl)
  refine codeAny_mono run fun r s' h => ?_
  cases r with
  | error e =>
    obtain ⟨_, _, _, _, _, _, _, _, _, _, _, _, z⟩ := h
    exact z.elim
  | ok fl =>
    cases fl with
    | next => exact False.elim h
    | brk => exact False.elim h
    | cont => exact False.elim h
    | ret u =>
      obtain ⟨v, H', os, bare, un, hok', ru, q⟩ := h
      have q' : v = .bl true := q
      subst q'
      obtain rfl : u = Value.bool true := ru
      refine ⟨rfl, OldK.of_keep fun p o e => ?_, os, bare⟩
      cases q : H p with
      | none => exact un.keep p o e q (fun z => by cases z) (by simp)
      | some u =>
        obtain ⟨rfl, xs, rfl⟩ := only p u q
        have z2 := un.frzs _ _ _ q
        obtain ⟨e2, _⟩ := hok' _ _ z2
        rw [obj] at e; cases e
        exact e2
/-- THE END: the goal behind the head of a law over one script of integers -/
theorem law_end {l : PySem.W.OpenLaw} {most lv k : Nat} {q : Program} {loose : List Str} {XP : (Str → Option Value) → Heap → Prop} {YP : World → Heap → Prop} {d : DefRec} {K : Params → PySem.W.Frag} {W : Wd} {n : Wn}
    (hmost : l.most = some most) (hsz : most ≤ sizeLine) (hdf : d.params.defaults = []) (room : Room lv callerA) (hY : ∀ (w : World) (h : Heap), YP w h → (K w.params).In h) (hk : n.fnm[k]? = some d.name)
    (tab : ∀ (w : World) (mg : Str → Option Value) (h : Heap), (K w.params).In h → h.Ns mainGlobals mg → ∃ ad : Nat → Addr, Tab (K w.params) ad W n mg)
    (law : ∀ ns : List Int, ns.length ≤ most → callF W lv k [.dat (.scr (ns.map .int))] [] = .ok (.vl (.dat (.bl true))) []) :
    PySem.W.WalkO q loose XP YP l.row.toRowW d [] (fun f vs => PySem.call f vs) := by
  refine Att.attach_call hmost hdf fun w s₀ s1 mg mb fa o pm cd doc a vs ns G Y ho hd hcd hmg hobj hints hlen hg => ?_
  obtain ⟨ad, T⟩ := tab w mg _ (hY w _ Y) G.T.g
  have e := hmg.symm.trans (T.fn k _ hk).1
  cases e
  exact law_at T hk (hY w _ Y) G.T.g G.T.b G.T.builtins G.T.nolimit hg hobj hints (Nat.le_trans hlen hsz) room (law ns hlen)
end EV

set_option Elab.async false
set_option linter.all false
set_option maxRecDepth 100000
set_option maxHeartbeats 4000000
/-! EV, part R: the table out of what the top has written. -/
namespace EV
open PySem PySem.Spec PyProof.Rows L2
mutual
/-- a value of the written part, as data -/
inductive RdV (K : PySem.W.Frag) : Value → D → Prop
  | non : RdV K .none .non
  | bl {b : Bool} : RdV K (.bool b) (.bl b)
  | int {i : Int} {t : Tok} : RdV K (.int i t) (.int i)
  | str {x : Str} {t : Tok} : RdV K (.str x t) (.str x)
  | tup {a : Addr} {od : Option Addr} {its : Array Value} {n : Nat} {sl : Array (Option Value)} {ds : List D} : K.lookup a = some ⟨.type "tuple", od, .seq its n, sl⟩ → RdVs K its.toList ds → ds.length ≤ sizeLine → RdV K (.ref a) (.tup ds)
  | lst {a : Addr} {its : Array Value} {n : Nat} {sl : Array (Option Value)} {ds : List D} : K.lookup a = some ⟨.type "list", none, .seq its n, sl⟩ → RdVs K its.toList ds → ds.length ≤ sizeLine → RdV K (.ref a) (.scr ds)
inductive RdVs (K : PySem.W.Frag) : List Value → List D → Prop
  | nil : RdVs K [] []
  | cons {u : Value} {us : List Value} {d : D} {ds : List D} : RdV K u d → RdVs K us ds → RdVs K (u :: us) (d :: ds)
end
theorem RdVs.len {K : PySem.W.Frag} : ∀ {us : List Value} {ds : List D}, RdVs K us ds → us.length = ds.length
  | _, _, .nil => rfl
  | _, _, .cons _ b => congrArg Nat.succ (RdVs.len b)
mutual
theorem RdV.rp {K : PySem.W.Frag} {ad : Nat → Addr} : ∀ {d : D} {u : Value}, RdV K u d → ∃ v, RelV v u ∧ ∀ F, Rp K ad F v d
  | .non, _, h => by cases h; exact ⟨.non, rfl, fun _ => .non⟩
  | .bl b, _, h => by cases h; exact ⟨.bl b, rfl, fun _ => .bl b⟩
  | .int i, _, h => by cases h; exact ⟨.int i, ⟨_, rfl⟩, fun _ => .int i⟩
  | .str x, _, h => by cases h; exact ⟨.str x, ⟨_, rfl⟩, fun _ => .str x⟩
  | .obj k, _, h => by cases h
  | .tup ds, _, h => by
    cases h with
    | tup lk r z =>
      obtain ⟨vs, rv, rp⟩ := RdVs.rp (ad := ad) r
      exact ⟨.ref _, rfl, fun F => .tup (.inr ⟨_, _, _, lk, rfl, rfl, by rw [← Array.length_toList, r.len]; exact z, rv⟩) (rp F)⟩
  | .lst ds, _, h => by cases h
  | .scr ds, _, h => by
    cases h with
    | lst lk r z =>
      obtain ⟨vs, rv, rp⟩ := RdVs.rp (ad := ad) r
      exact ⟨.ref _, rfl, fun F => .scr (.inr ⟨_, _, _, lk, rfl, rfl, rfl, by rw [← Array.length_toList, r.len]; exact z, rv⟩) (rp F)⟩
theorem RdVs.rp {K : PySem.W.Frag} {ad : Nat → Addr} : ∀ {ds : List D} {us : List Value}, RdVs K us ds → ∃ vs, Vals vs us ∧ ∀ F, RpA K ad F vs ds
  | [], _, h => by cases h; exact ⟨[], .nil, fun _ => .nil⟩
  | d :: ds, _, h => by
    cases h with
    | cons a b =>
      obtain ⟨v, e, q⟩ := RdV.rp (ad := ad) a
      obtain ⟨vs, e2, q2⟩ := RdVs.rp (ad := ad) b
      exact ⟨v :: vs, .cons e e2, fun F => .cons (q F) (q2 F)⟩
end
/-- a constant of the module -/
def ConIn (K : PySem.W.Frag) (p : Str × D) : Prop := ∃ u, PySem.W.nsIn K mainGlobals p.1 = some (some u) ∧ RdV K u p.2
theorem con_mk {K : PySem.W.Frag} {x : Str} {d : D} {u : Value} (h1 : PySem.W.nsIn K mainGlobals x = some (some u)) (h2 : RdV K u d) : ConIn K (x, d) := ⟨u, h1, h2⟩
/-- a built-in name that the module leaves alone -/
def NoIn (K : PySem.W.Frag) (x : Str) : Prop := PySem.W.nsIn K mainGlobals x = some none
theorem no_mk {K : PySem.W.Frag} {x : Str} (h : PySem.W.nsIn K mainGlobals x = some none) : NoIn K x := h
/-- a def of the table: its own name, the global name, its statement in the text, its names, its parameters, its form in the language -/
structure FS where
  x : Str
  g : Str
  st : Stmt
  N : List Str
  ps : List Str
  f : Fn
/-- how it binds, in words of lists alone -/
def BindF (F : FS) : Prop := ∀ (dV kV doc pm : Value) (an : Option Addr) (cdv ct : Value) (K : PySem.W.Frag) (its : List Value), (F.f.dfl = [] → dV = .none) →
  (F.f.dfl ≠ [] → ∃ (T : Addr) (o : Obj) (n : Nat), dV = .ref T ∧ K.lookup T = some o ∧ o.data = .seq its.toArray n) → its.length = F.f.dfl.length →
  ∀ n, n ≤ F.ps.length → F.ps.length ≤ n + F.f.dfl.length → Binds K (PySem.W.fnOf F.x F.x (defArgs F.st) (defBody F.st) (defScope F.st) dV kV doc pm an cdv ct) F.ps (its.drop (n + F.f.dfl.length - F.ps.length))
/-- no default -/
theorem bind0 {F : FS} (hd : F.f.dfl = []) (h : ∀ (kV doc pm : Value) (an : Option Addr) (cdv ct : Value) (us : List Value), us.length = F.ps.length →
    bindArgs (PySem.W.fnOf F.x F.x (defArgs F.st) (defBody F.st) (defScope F.st) .none kV doc pm an cdv ct) ⟨us, []⟩ = pure (F.ps.zip us)) : BindF F := by
  intro dV kV doc pm an cdv ct K its h1 _ hl n _ _
  rw [h1 hd]
  have e : its = [] := List.eq_nil_of_length_eq_zero (by rw [hl, hd]; rfl)
  subst e
  rw [List.drop_nil]
  exact .all (h kV doc pm an cdv ct)
/-- with defaults -/
theorem bindD {F : FS} (hd : F.f.dfl ≠ []) (h : ∀ (T : Addr) (kV doc pm : Value) (an : Option Addr) (cdv ct : Value) (n : Nat), n ≤ F.ps.length → F.ps.length ≤ n + F.f.dfl.length → ∀ us its : List Value, us.length = n → its.length = F.f.dfl.length →
    ∃ k, bindArgs (PySem.W.fnOf F.x F.x (defArgs F.st) (defBody F.st) (defScope F.st) (.ref T) kV doc pm an cdv ct) ⟨us, []⟩ = seqItems? (.ref T) >>= k ∧ k (some its.toArray) = pure (F.ps.zip (us ++ its.drop (n + F.f.dfl.length - F.ps.length)))) : BindF F := by
  intro dV kV doc pm an cdv ct K its _ h2 hl n n1 n2 s us kin len
  obtain ⟨T, o, m, rfl, lk, hs⟩ := h2 hd
  have hu : us.length = n := by
    rw [List.length_append, List.length_drop, hl] at len
    omega
  obtain ⟨k, e1, e2⟩ := h T kV doc pm an cdv ct n n1 n2 us its hu hl
  exact BindsTo.of_defaults rfl (kin T o lk) hs e1 e2
def FnIn (K : PySem.W.Frag) (F : FS) : Prop := ∃ (a : Addr) (oc dV kV doc pm cdv ct : Value) (od an : Option Addr) (osl : Array (Option Value)), PySem.W.nsIn K mainGlobals F.g = some (some (.ref a)) ∧
  K.lookup a = some ⟨oc, od, .func (PySem.W.fnOf F.x F.x (defArgs F.st) (defBody F.st) (defScope F.st) dV kV doc pm an cdv ct), osl⟩ ∧ PySem.W.codeIn K cdv F.x = true ∧ PySem.W.keepIn K (.ref a) = true ∧
  ((F.f.dfl = [] ∧ dV = .none) ∨ (F.f.dfl ≠ [] ∧ ∃ (T : Addr) (o : Obj) (its : Array Value) (n : Nat), dV = .ref T ∧ K.lookup T = some o ∧ o.data = .seq its n ∧ RdVs K its.toList F.f.dfl))
theorem fn0 {K : PySem.W.Frag} {F : FS} {a : Addr} {oc kV doc pm cdv ct : Value} {od an : Option Addr} {osl : Array (Option Value)} (h1 : PySem.W.nsIn K mainGlobals F.g = some (some (.ref a)))
    (h2 : K.lookup a = some ⟨oc, od, .func (PySem.W.fnOf F.x F.x (defArgs F.st) (defBody F.st) (defScope F.st) .none kV doc pm an cdv ct), osl⟩) (h3 : PySem.W.codeIn K cdv F.x = true) (h4 : PySem.W.keepIn K (.ref a) = true) (hd : F.f.dfl = []) : FnIn K F :=
  ⟨a, oc, .none, kV, doc, pm, cdv, ct, od, an, osl, h1, h2, h3, h4, .inl ⟨hd, rfl⟩⟩
theorem fnD {K : PySem.W.Frag} {F : FS} {a T : Addr} {oc kV doc pm cdv ct tc : Value} {od an td : Option Addr} {osl tsl : Array (Option Value)} {its : Array Value} {n : Nat} (h1 : PySem.W.nsIn K mainGlobals F.g = some (some (.ref a)))
    (h2 : K.lookup a = some ⟨oc, od, .func (PySem.W.fnOf F.x F.x (defArgs F.st) (defBody F.st) (defScope F.st) (.ref T) kV doc pm an cdv ct), osl⟩) (h3 : PySem.W.codeIn K cdv F.x = true) (h4 : PySem.W.keepIn K (.ref a) = true)
    (h5 : K.lookup T = some ⟨tc, td, .seq its n, tsl⟩) (h6 : RdVs K its.toList F.f.dfl) (hd : F.f.dfl ≠ []) : FnIn K F :=
  ⟨a, oc, .ref T, kV, doc, pm, cdv, ct, od, an, osl, h1, h2, h3, h4, .inr ⟨hd, T, _, its, n, rfl, h5, rfl, h6⟩⟩
def AllF {α : Type} (p : α → Prop) : List α → Prop
  | [] => True
  | x :: r => p x ∧ AllF p r
theorem AllF.get {α : Type} {p : α → Prop} : ∀ {l : List α} {i : Nat} {x : α}, AllF p l → l[i]? = some x → p x
  | [], _, _, _, e => by simp at e
  | _ :: _, 0, _, h, e => by simp at e; subst e; exact h.1
  | _ :: r, i + 1, _, h, e => AllF.get (l := r) (i := i) h.2 (by simpa using e)
/-- what a computation checks of a def -/
def FS.ok (W : Wd) (n : Wn) (F : FS) : Bool := fnScB F.N F.ps (defScope F.st) && matSs W n F.N (defScope F.st) F.f.body (defBody F.st) && decide (F.ps.length = F.f.np) && decide (F.N.length = F.f.ns)
def FS.wd (cs : List (Str × D)) (fs : List FS) : Wd := ⟨cs, fs.map (·.f)⟩
def FS.wn (fs : List FS) (bs : List Str) : Wn := ⟨fs.map (·.g), bs⟩
theorem fa_of {K : PySem.W.Frag} {ad : Nat → Addr} {W : Wd} {n : Wn} {F : FS} (ok : F.ok W n = true) (bd : BindF F) (h : FnIn K F) : ∃ a : Addr, PySem.W.nsIn K mainGlobals F.g = some (some (.ref a)) ∧ PySem.W.keepIn K (.ref a) = true ∧ ∀ ad, FnA K ad W n F.N F.ps F.x (defBody F.st) (defScope F.st) F.f a := by
  obtain ⟨a, oc, dV, kV, doc, pm, cdv, ct, od, an, osl, h1, h2, h3, h4, h5⟩ := h
  simp only [FS.ok, Bool.and_eq_true, decide_eq_true_eq] at ok
  obtain ⟨⟨⟨o1, o2⟩, o3⟩, o4⟩ := ok
  refine ⟨a, h1, h4, fun ad => ⟨o1, o2, o3, o4, ?_⟩⟩
  rcases h5 with ⟨d1, d2⟩ | ⟨d1, T, o, its, m, d2, d3, d4, d5⟩
  · refine ⟨F.x, defArgs F.st, dV, kV, doc, pm, cdv, ct, oc, an, od, osl, [], h2, h3, by rw [d1]; rfl, fun F' => by rw [d1]; exact .nil, fun k k1 k2 => ?_⟩
    have b := bd dV kV doc pm an cdv ct K [] (fun _ => d2) (fun z => absurd d1 z) (by rw [d1]; rfl) k k1 (by rw [d1]; exact k2)
    rw [List.drop_nil] at b
    exact ⟨[], by rw [List.drop_nil]; exact .nil, b⟩
  · obtain ⟨vs, rv, rp⟩ := RdVs.rp (ad := ad) d5
    have l1 : vs.length = F.f.dfl.length := by rw [rv.length, d5.len]
    refine ⟨F.x, defArgs F.st, dV, kV, doc, pm, cdv, ct, oc, an, od, osl, vs, h2, h3, l1, rp, fun k k1 k2 => ?_⟩
    have b := bd dV kV doc pm an cdv ct K its.toList (fun z => absurd z d1) (fun _ => ⟨T, o, m, d2, d3, by rw [d4]⟩) d5.len k k1 (by rw [← l1]; exact k2)
    refine ⟨_, ?_, b⟩
    rw [l1]
    exact rv.drop _
/-- THE TABLE -/
theorem tab_of {K : PySem.W.Frag} {mg : Str → Option Value} {h : Heap} {cs : List (Str × D)} {fs : List FS} {bs : List Str} (kin : K.In h) (G : h.Ns mainGlobals mg) (hf : AllF (FnIn K) fs) (hc : AllF (ConIn K) cs) (hb : AllF (NoIn K) bs)
    (ok : fs.all (FS.ok (FS.wd cs fs) (FS.wn fs bs)) = true) (bd : AllF BindF fs) : ∃ ad : Nat → Addr, Tab K ad (FS.wd cs fs) (FS.wn fs bs) mg := by
  have one : ∀ k : Nat, ∃ a : Addr, ∀ F : FS, fs[k]? = some F → PySem.W.nsIn K mainGlobals F.g = some (some (.ref a)) ∧ PySem.W.keepIn K (.ref a) = true ∧ ∀ ad, FnA K ad (FS.wd cs fs) (FS.wn fs bs) F.N F.ps F.x (defBody F.st) (defScope F.st) F.f a := fun k => by
    cases e : fs[k]? with
    | none => exact ⟨0, fun F z => by cases z⟩
    | some F =>
      obtain ⟨a, q⟩ := fa_of (ad := fun _ => 0) (List.all_eq_true.mp ok F (List.mem_of_getElem? e)) (bd.get e) (hf.get e)
      exact ⟨a, fun F' z => by cases z; exact q⟩
  obtain ⟨ad, all⟩ : ∃ ad : Nat → Addr, ∀ k (F : FS), fs[k]? = some F → PySem.W.nsIn K mainGlobals F.g = some (some (.ref (ad k))) ∧ PySem.W.keepIn K (.ref (ad k)) = true ∧ ∀ ad', FnA K ad' (FS.wd cs fs) (FS.wn fs bs) F.N F.ps F.x (defBody F.st) (defScope F.st) F.f (ad k) :=
    ⟨fun k => Classical.choose (one k), fun k => Classical.choose_spec (one k)⟩
  refine ⟨ad, ?_, ?_, ?_, ?_⟩
  · intro g p e
    obtain ⟨u, e1, r⟩ := hc.get (show cs[g]? = some p from e)
    obtain ⟨v, r1, r2⟩ := RdV.rp (ad := ad) r
    exact ⟨v, u, PySem.W.mg_of kin G e1, r1, r2⟩
  · intro x hx
    have m : x ∈ bs := List.contains_iff_mem.mp hx
    obtain ⟨i, hi⟩ := List.mem_iff_getElem?.mp m
    exact PySem.W.mg_none_of kin G (hb.get hi)
  · intro k x e
    have e' : (fs.map (·.g))[k]? = some x := e
    rw [List.getElem?_map] at e'
    cases q : fs[k]? with
    | none => rw [q] at e'; cases e'
    | some F =>
      rw [q] at e'
      cases e'
      obtain ⟨a1, a2, _⟩ := all k F q
      exact ⟨PySem.W.mg_of kin G a1, a2⟩
  · intro k x f e e2
    have e' : (fs.map (·.g))[k]? = some x := e
    have e2' : (fs.map (·.f))[k]? = some f := e2
    rw [List.getElem?_map] at e' e2'
    cases q : fs[k]? with
    | none => rw [q] at e'; cases e'
    | some F =>
      rw [q] at e' e2'
      cases e'
      cases e2'
      obtain ⟨_, _, a3⟩ := all k F q
      exact ⟨_, _, _, _, _, a3 _⟩
end EV

set_option Elab.async false
set_option linter.all false
set_option maxRecDepth 100000
set_option maxHeartbeats 4000000
/-! EV, part S: the evaluator step by step. -/
namespace EV
open PySem L2
section
variable {α β : Type} {W : Wd} {C : Cal} {b : Nat} {s : Slots} {m : Sto}
theorem bi_ok (a : α) (m : Sto) (f : α → Sto → R β) : (R.ok a m).bind f = f a m := rfl
theorem bi_bad (f : α → Sto → R β) : (R.bad : R α).bind f = .bad := rfl
theorem of_some (a : α) (m : Sto) : R.ofO (some a) m = .ok a m := rfl
theorem lk_dat (m : Sto) (d : D) : look m (.dat d) = some d := rfl
theorem lk_loc {m : Sto} {n : Nat} {xs : List D} (h : m[n]? = some (.lst xs)) : look m (.loc n) = some (.lst xs) := by simp only [look, h]
theorem lks_nil (m : Sto) : looks m [] = some [] := rfl
theorem lks_cons (m : Sto) (d : D) (vs : List Vl) : looks m (.dat d :: vs) = (looks m vs).map (d :: ·) := rfl
theorem do_nil : datsOf [] = some [] := rfl
theorem do_cons (d : D) (vs : List Vl) : datsOf (.dat d :: vs) = (datsOf vs).map (d :: ·) := rfl
theorem op_some {γ : Type} (a : α) (f : α → γ) : Option.map f (some a) = some (f a) := rfl
theorem ob_some {γ : Type} (a : α) (f : α → Option γ) : Option.bind (some a) f = f a := rfl
/-! operations -/
theorem b_add (i j : Int) : binD .Add (.int i) (.int j) = some (.int (i + j)) := rfl
theorem b_sub (i j : Int) : binD .Sub (.int i) (.int j) = some (.int (i - j)) := rfl
theorem b_mul {i j : Int} (h : mulOk i j = true) : binD .Mult (.int i) (.int j) = some (.int (i * j)) := by simp only [binD, h, if_true]
theorem b_div {i j : Int} (h : j ≠ 0) (h2 : Builtin.divisionGoesByPylong i j = false) : binD .FloorDiv (.int i) (.int j) = some (.int (i.fdiv j)) := by simp [binD, h, h2]
theorem b_mod {i j : Int} (h : j ≠ 0) : binD .Mod (.int i) (.int j) = some (.int (i.fmod j)) := by simp [binD, h]
theorem b_catL {xs ys : List D} (h : szOk (xs.length + ys.length) = true) : binD .Add (.lst xs) (.lst ys) = some (.lst (xs ++ ys)) := by simp only [binD, h, if_true]
theorem b_catT {xs ys : List D} (h : szOk (xs.length + ys.length) = true) : binD .Add (.tup xs) (.tup ys) = some (.tup (xs ++ ys)) := by simp only [binD, h, if_true]
theorem c_lt (i j : Int) : cmpD .Lt (.int i) (.int j) = some (decide (i < j)) := rfl
theorem c_le (i j : Int) : cmpD .LtE (.int i) (.int j) = some (decide (i ≤ j)) := rfl
theorem c_gt (i j : Int) : cmpD .Gt (.int i) (.int j) = some (decide (j < i)) := rfl
theorem c_ge (i j : Int) : cmpD .GtE (.int i) (.int j) = some (decide (j ≤ i)) := rfl
theorem c_eqS (x y : Str) : cmpD .Eq (.str x) (.str y) = some (decide (x = y)) := rfl
theorem c_neS (x y : Str) : cmpD .NotEq (.str x) (.str y) = some (!decide (x = y)) := rfl
theorem c_eqI (i : Int) (e : D) : cmpD .Eq (.int i) e = eqD (.int i) e := by cases e <;> rfl
theorem c_neI (i : Int) (e : D) : cmpD .NotEq (.int i) e = (eqD (.int i) e).map (!·) := by cases e <;> rfl
theorem c_eqB (i : Bool) (e : D) : cmpD .Eq (.bl i) e = eqD (.bl i) e := by cases e <;> rfl
theorem c_neB (i : Bool) (e : D) : cmpD .NotEq (.bl i) e = (eqD (.bl i) e).map (!·) := by cases e <;> rfl
theorem c_eqT (i : List D) (e : D) : cmpD .Eq (.tup i) e = eqD (.tup i) e := by cases e <;> rfl
theorem c_neT (i : List D) (e : D) : cmpD .NotEq (.tup i) e = (eqD (.tup i) e).map (!·) := by cases e <;> rfl
theorem c_eqL (i : List D) (e : D) : cmpD .Eq (.lst i) e = eqD (.lst i) e := by cases e <;> rfl
theorem c_neL (i : List D) (e : D) : cmpD .NotEq (.lst i) e = (eqD (.lst i) e).map (!·) := by cases e <;> rfl
theorem c_isB (a b : Bool) : cmpD .Is (.bl a) (.bl b) = some (decide (a = b)) := rfl
theorem c_isntB (a b : Bool) : cmpD .IsNot (.bl a) (.bl b) = some (!decide (a = b)) := rfl
theorem c_is (d : D) : cmpD .Is d .non = some (isNon d) := by cases d <;> rfl
theorem c_isnt (d : D) : cmpD .IsNot d .non = some (!isNon d) := by cases d <;> rfl
theorem sh_int (i : Int) : SeqAt.shaped (.int i) = true := rfl
theorem sh_bool (x : Bool) : SeqAt.shaped (.bool x) = true := rfl
theorem sh_pair (i j : Int) : SeqAt.shaped (.tuple [.int i, .int j]) = true := rfl
theorem eq_pair (i j k l : Int) : eqD (.tup [.int i, .int j]) (.tup [.int k, .int l]) = some (decide (i = k ∧ j = l)) := by
  by_cases h : i = k <;> by_cases h2 : j = l <;> simp [eqD, toPy, toPys, sh_pair, PyData.eqv, PyData.eqvAll, h, h2]
theorem eq_int (i j : Int) : eqD (.int i) (.int j) = some (decide (i = j)) := by
  by_cases h : i = j <;> simp [eqD, toPy, sh_int, sh_bool, PyData.eqv, h]
theorem eq_bl (x y : Bool) : eqD (.bl x) (.bl y) = some (decide (x = y)) := by
  cases x <;> cases y <;> simp [eqD, toPy, sh_int, sh_bool, PyData.eqv]
theorem t_bl (x : Bool) : truD (.bl x) = some x := rfl
theorem t_int (i : Int) : truD (.int i) = some (i != 0) := rfl
theorem t_lst (xs : List D) : truD (.lst xs) = some (!xs.isEmpty) := rfl
theorem t_tup (xs : List D) : truD (.tup xs) = some (!xs.isEmpty) := rfl
theorem l_tup (xs : List D) : bltD .len [.tup xs] = some (.int xs.length) := rfl
theorem l_lst (xs : List D) : bltD .len [.lst xs] = some (.int xs.length) := rfl
theorem l_scr (xs : List D) : bltD .len [.scr xs] = some (.int xs.length) := rfl
theorem l_abs (i : Int) : bltD .abs [.int i] = some (.int (i.natAbs : Int)) := by
  show some (D.int (if i < 0 then -i else i)) = _
  congr 2
  split <;> omega
theorem l_int (i : Int) : bltD .int [.int i] = some (.int i) := rfl
theorem l_intB (x : Bool) : bltD .int [.bl x] = some (.int (if x then 1 else 0)) := rfl
theorem l_max (i j : Int) : bltD .max2 [.int i, .int j] = some (.int (max i j)) := by
  show some (D.int (if j > i then j else i)) = _
  congr 2
  omega
theorem l_min (i j : Int) : bltD .min2 [.int i, .int j] = some (.int (min i j)) := by
  show some (D.int (if j < i then j else i)) = _
  congr 2
  omega
theorem l_tt (xs : List D) : bltD .tuple [.tup xs] = some (.tup xs) := rfl
theorem l_tl (xs : List D) : bltD .tuple [.lst xs] = some (.tup xs) := rfl
theorem l_all (xs : List D) : bltD .all [.lst xs] = (allD xs).map .bl := rfl
theorem l_any (xs : List D) : bltD .any [.lst xs] = (anyD xs).map .bl := rfl
theorem l_repr (d : D) : bltD .repr [d] = (reprD d).map .str := by cases d <;> rfl
theorem s_tup (xs : List D) (i : Int) : subD (.tup xs) (.int i) = (ixD xs.length i).bind fun j => xs[j]? := rfl
theorem s_lst (xs : List D) (i : Int) : subD (.lst xs) (.int i) = (ixD xs.length i).bind fun j => xs[j]? := rfl
theorem s_scr (xs : List D) (i : Int) : subD (.scr xs) (.int i) = (ixD xs.length i).bind fun j => xs[j]? := rfl
theorem ix_lit {n k : Nat} (h : k < n) : ixD n ((k : Nat) : Int) = some k := by simp [ixD, h]
theorem i_int (i : Int) (t : String) (h : ["int", "bool", "str", "tuple", "list", "dict"].contains t = true) : isiD (.int i) t = some ("int" == t || (("int" : String) == "bool" && t == "int")) := by simp only [isiD, h, if_true, tyName]; rfl
theorem i_tup (xs : List D) (t : String) (h : ["int", "bool", "str", "tuple", "list", "dict"].contains t = true) : isiD (.tup xs) t = some ("tuple" == t || (("tuple" : String) == "bool" && t == "int")) := by simp only [isiD, h, if_true, tyName]; rfl
theorem i_tt (xs : List D) : isiD (.tup xs) "tuple" = some true := rfl
theorem i_ii (i : Int) : isiD (.int i) "int" = some true := rfl
theorem i_ib (i : Int) : isiD (.int i) "bool" = some false := rfl
theorem i_it (i : Int) : isiD (.int i) "tuple" = some false := rfl
theorem ix0 {n : Nat} (h : 0 < n) : ixD n 0 = some 0 := ix_lit (k := 0) h
theorem ix1 {n : Nat} (h : 1 < n) : ixD n 1 = some 1 := ix_lit (k := 1) h
theorem ix2 {n : Nat} (h : 2 < n) : ixD n 2 = some 2 := ix_lit (k := 2) h
/-! expressions -/
theorem v_var (i : Nat) : ev W C (.var i) s m = match s[i]? with
    | some (some v) => .ok v m
    | _ => .bad := rfl
theorem v_cst (d : D) : ev W C (.cst d) s m = .ok (.dat d) m := rfl
theorem v_glo (g : Nat) : ev W C (.glo g) s m = match W.con[g]? with
    | some p => .ok (.dat p.2) m
    | none => .bad := rfl
theorem v_tup (es : List Ex) : ev W C (.tup es) s m = (evs W C es s m).bind fun vs m => match datsOf vs with
    | some ds => if szOk ds.length then .ok (.dat (.tup ds)) m else .bad
    | none => .bad := rfl
theorem v_lst (es : List Ex) : ev W C (.lst es) s m = (evs W C es s m).bind fun vs m => match datsOf vs with
    | some ds => if szOk ds.length then .ok (.dat (.lst ds)) m else .bad
    | none => .bad := rfl
theorem v_lsts (fl : List Bool) (es : List Ex) : ev W C (.lsts fl es) s m = (evd W C fl es s m).bind fun ds m => if szOk ds.length then .ok (.dat (.lst ds)) m else .bad := rfl
theorem d_nil : evd W C [] [] s m = .ok [] m := rfl
theorem d_star (fl : List Bool) (e : Ex) (es : List Ex) : evd W C (true :: fl) (e :: es) s m = (ev W C e s m).bind fun x m => match (look m x).bind itemsD with
    | some xs => (evd W C fl es s m).bind fun ds m => .ok (xs ++ ds) m
    | none => .bad := rfl
theorem d_one (fl : List Bool) (e : Ex) (es : List Ex) : evd W C (false :: fl) (e :: es) s m = (ev W C e s m).bind fun x m => match x with
    | .dat d => (evd W C fl es s m).bind fun ds m => .ok (d :: ds) m
    | .loc _ => .bad := rfl
theorem l_max1 (xs : List D) : bltD .max1 [.lst xs] = (intsD xs).bind fun is => is.max?.map .int := rfl
theorem l_min1 (xs : List D) : bltD .min1 [.lst xs] = (intsD xs).bind fun is => is.min?.map .int := rfl
theorem l_sum (xs : List D) : bltD .sum [.lst xs] = (intsD xs).map fun is => .int is.sum := rfl
theorem v_bin (op : Operator) (x y : Ex) : ev W C (.bin op x y) s m = (ev W C x s m).bind fun x m => (ev W C y s m).bind fun y m => match look m x, look m y with
    | some d, some e => (R.ofO (binD op d e) m).bind fun r m => .ok (.dat r) m
    | _, _ => .bad := rfl
theorem v_neg (x : Ex) : ev W C (.neg x) s m = (ev W C x s m).bind fun x m => match x with
    | .dat (.int i) => .ok (.dat (.int (-i))) m
    | _ => .bad := rfl
theorem v_nt (x : Ex) : ev W C (.nt x) s m = (ev W C x s m).bind fun x m => match x with
    | .dat (.bl b) => .ok (.dat (.bl (!b))) m
    | _ => .bad := rfl
theorem v_cmp (op : CmpOp) (x y : Ex) : ev W C (.cmp op x y) s m = (ev W C x s m).bind fun x m => (ev W C y s m).bind fun y m => match look m x, look m y with
    | some d, some e => (R.ofO (cmpD op d e) m).bind fun r m => .ok (.dat (.bl r)) m
    | _, _ => .bad := rfl
theorem v_chain (op op' : CmpOp) (x y z : Ex) : ev W C (.chain op op' x y z) s m = (ev W C x s m).bind fun x m => (ev W C y s m).bind fun y m => match x, y with
    | .dat d, .dat e => (R.ofO (cmpD op d e) m).bind fun r m => if r = true then (ev W C z s m).bind fun z m => match z with
        | .dat g => (R.ofO (cmpD op' e g) m).bind fun r m => .ok (.dat (.bl r)) m
        | _ => .bad
      else .ok (.dat (.bl false)) m
    | _, _ => .bad := rfl
theorem v_and (es : List Ex) : ev W C (.andl es) s m = evAnd W C es s m := rfl
theorem v_or (es : List Ex) : ev W C (.orl es) s m = evOr W C es s m := rfl
theorem v_ite (c : Tx) (x y : Ex) : ev W C (.ite c x y) s m = (evT W C c s m).bind fun t m => if t = true then ev W C x s m else ev W C y s m := rfl
theorem v_sub (x y : Ex) : ev W C (.sub x y) s m = (ev W C x s m).bind fun x m => (ev W C y s m).bind fun y m => match look m x, y with
    | some d, .dat e => (R.ofO (subD d e) m).bind fun r m => .ok (.dat r) m
    | _, _ => .bad := rfl
theorem v_rev (x : Ex) : ev W C (.rev x) s m = (ev W C x s m).bind fun x m => match look m x with
    | some d => (R.ofO (revD d) m).bind fun r m => .ok (.dat r) m
    | none => .bad := rfl
theorem v_call (k : Nat) (es : List Ex) : ev W C (.call k es) s m = (evs W C es s m).bind fun vs m => (C k vs m).bind fun r m => match r with
    | .vl v => .ok v m
    | .new xs => .ok (.dat (.lst xs)) m := rfl
theorem v_blt (t : Bt) (es : List Ex) : ev W C (.blt t es) s m = (evs W C es s m).bind fun vs m => match looks m vs with
    | some ds => (R.ofO (bltD t ds) m).bind fun r m => .ok (.dat r) m
    | none => .bad := rfl
theorem v_isi (x : Ex) (t : String) : ev W C (.isi x t) s m = (ev W C x s m).bind fun x m => match look m x with
    | some d => (R.ofO (isiD d t) m).bind fun r m => .ok (.dat (.bl r)) m
    | none => .bad := rfl
theorem v_comp (tg : Tg) (ik : IK) (src : List Ex) (ifs : List Tx) (elt : Ex) : ev W C (.comp tg ik src ifs elt) s m = (evC W C tg ik src ifs elt s m).bind fun ds m => .ok (.dat (.lst ds)) m := ev_comp W C tg ik src ifs elt s m
/-- a comprehension that changes nothing: one item for each -/
theorem loop_map {f : D → Sto → R (Option D)} {g : D → D} {m : Sto} : ∀ {xs acc : List D}, (∀ x ∈ xs, f x m = .ok (some (g x)) m) → loopC f xs acc m = .ok (acc ++ xs.map g) m
  | [], acc, _ => by simp [loopC]
  | x :: xs, acc, h => by
    unfold loopC
    rw [h x List.mem_cons_self, bi_ok]
    dsimp only
    rw [loop_map (xs := xs) fun y hy => h y (List.mem_cons_of_mem _ hy)]
    simp
theorem evC_map {tg : Tg} {ik : IK} {src : List Ex} {ifs : List Tx} {elt : Ex} {vs : List Vl} {m1 : Sto} {ds xs : List D} {g : D → D} (h1 : evs W C src s m = .ok vs m1) (h2 : datsOf vs = some ds) (h3 : walkD ik ds = some xs) (h4 : szOk xs.length = true)
    (h5 : ∀ x ∈ xs, turnC W C tg ifs elt s x m1 = .ok (some (g x)) m1) : evC W C tg ik src ifs elt s m = .ok (xs.map g) m1 := by
  unfold evC
  rw [h1, bi_ok]
  simp only [h2, h3, h4, if_true]
  rw [loop_map h5]
  simp
/-- one turn without tests -/
theorem turn0 {tg : Tg} {elt : Ex} {x : D} {s' : Slots} {d : D} {m1 : Sto} (h1 : tgD tg x (wipeS s (slotsOf tg)) = some s') (h2 : ev W C elt s' m = .ok (.dat d) m1) : turnC W C tg [] elt s x m = .ok (some d) m1 := by
  unfold turnC
  rw [h1]
  simp only [evIfs, noX, bi_ok, if_true]
  rw [h2]
  rfl
theorem allD_true : ∀ {xs : List D}, (∀ x ∈ xs, x = D.bl true) → allD xs = some true
  | [], _ => rfl
  | x :: xs, h => by
    have e := h x List.mem_cons_self
    subst e
    show (allD xs).map (true && ·) = _
    rw [allD_true fun y hy => h y (List.mem_cons_of_mem _ hy)]
    rfl
/-! loops -/
def whlStep (W : Wd) (C : Cal) (b : Nat) (c : Tx) (x : List EV.St) (s : Slots) (m : Sto) : R (Out × Bool) := (evT W C c s m).bind fun t m => if t = true then (exs W C b x s m).bind fun o m => match o with
      | .nx s' => .ok (.nx s', true) m
      | .ctn s' => .ok (.nx s', true) m
      | .brk s' => .ok (.nx s', false) m
      | .ret v => .ok (.ret v, false) m
    else .ok (.nx s, false) m
def forStep (W : Wd) (C : Cal) (b : Nat) (tg : Tg) (x : List EV.St) (d : D) (s : Slots) (m : Sto) : R Out := match tgD tg d s with
          | some s' => exs W C b x s' m
          | none => .bad
theorem x_whl (c : Tx) (x : List EV.St) : exS W C b (.whl c x) s m = whlF whlMost (whlStep W C b c x) s m := rfl
theorem x_for (tg : Tg) (ik : IK) (src : List Ex) (x : List EV.St) : exS W C b (.fort tg ik src x) s m = (evs W C src s m).bind fun vs m => match datsOf vs with
    | some ds => match walkD ik ds with
      | some xs => if szOk xs.length then forF (forStep W C b tg x) xs s m else .bad
      | none => .bad
    | none => .bad := rfl
theorem x_nil : exs W C b [] s m = .ok (.nx s) m := rfl
theorem x_cons (x : EV.St) (r : List EV.St) : exs W C b (x :: r) s m = (exS W C b x s m).bind fun o m => match o with
    | .nx s' => exs W C b r s' m
    | o => .ok o m := rfl
/-- one statement, then the rest -/
theorem st1 {x : EV.St} {r : List EV.St} {s' : Slots} {m' : Sto} {z : R Out} (h : exS W C b x s m = .ok (.nx s') m') (h2 : exs W C b r s' m' = z) : exs W C b (x :: r) s m = z := by
  rw [x_cons, h, bi_ok]
  exact h2
theorem x_set (i : Nat) (e : Ex) : exS W C b (.set (.nm i) e) s m = (ev W C e s m).bind fun v m => if i < s.length then .ok (.nx (s.set i (some v))) m else .bad := rfl
theorem x_setT (ts : List Tg) (e : Ex) : exS W C b (.set (.tp ts) e) s m = (ev W C e s m).bind fun v m => match v with
    | .dat d => (R.ofO (tgD (.tp ts) d s) m).bind fun s' m => .ok (.nx s') m
    | .loc _ => .bad := rfl
theorem x_par (ts : List Nat) (es : List Ex) : exS W C b (.par ts es) s m = (evs W C es s m).bind fun vs m => (R.ofO (parS ts vs s) m).bind fun s' m => .ok (.nx s') m := rfl
theorem x_ife (c : Tx) (x y : List EV.St) : exS W C b (.ife c x y) s m = (evT W C c s m).bind fun t m => if t = true then exs W C b x s m else exs W C b y s m := rfl
theorem x_ret (e : Ex) : exS W C b (.ret e) s m = (ev W C e s m).bind fun v m => .ok (.ret (.vl v)) m := rfl
theorem x_retf (e : Ex) : exS W C b (.retf e) s m = (evN W C e s m).bind fun xs m => .ok (.ret (.new xs)) m := rfl
theorem n_lst (es : List Ex) : evN W C (.lst es) s m = (evs W C es s m).bind fun vs m => match datsOf vs with
    | some ds => if szOk ds.length then .ok ds m else .bad
    | none => .bad := rfl
theorem n_call (k : Nat) (es : List Ex) : evN W C (.call k es) s m = (evs W C es s m).bind fun vs m => (C k vs m).bind fun r m => match r with
    | .new xs => .ok xs m
    | _ => .bad := rfl
theorem x_newl (i c : Nat) (e : Ex) : exS W C b (.newl i c e) s m = (evN W C e s m).bind fun xs m => if i < s.length && b + c < m.length && freeOf (b + c) i 0 s then .ok (.nx (s.set i (some (.loc (b + c))))) (m.set (b + c) (.lst xs)) else .bad := rfl
theorem x_exp (e : Ex) : exS W C b (.exp e) s m = (ev W C e s m).bind fun _ m => .ok (.nx s) m := rfl
theorem ru {f : Fn} {vs : List Vl} {as : List Vl} {r : R RV} (ha : vs ++ (f.dfl.drop (vs.length + f.dfl.length - f.np)).map Vl.dat = as) (hl : as.length = f.np)
    (h : (match exs W C m.length f.body (as.map some ++ List.replicate (f.ns - f.np) none) (m ++ List.replicate f.nc .nil) with
    | .ok (.ret v) m' => if outOk m.length v = true then .ok v (m'.take m.length) else .bad
    | .ok (.nx _) m' => .ok (.vl (.dat .non)) (m'.take m.length)
    | .ok _ _ => .bad
    | .exc x m' => .exc x (m'.take m.length)
    | .bad => .bad) = r) : runF W C f vs m = r := by
  unfold runF
  subst ha
  dsimp only
  rw [if_pos hl]
  exact h
/-- a def that hands out a datum -/
theorem ru_cut {f : Fn} {vs as : List Vl} {d : D} {m' : Sto} (ha : vs ++ (f.dfl.drop (vs.length + f.dfl.length - f.np)).map Vl.dat = as) (hl : as.length = f.np)
    (h : exs W C m.length f.body (as.map some ++ List.replicate (f.ns - f.np) none) (m ++ List.replicate f.nc .nil) = .ok (.ret (.vl (.dat d))) m') : runF W C f vs m = .ok (.vl (.dat d)) (m'.take m.length) := by
  refine ru ha hl ?_
  rw [h]
  simp [outOk]
/-- a def that hands out a datum, and has no cell -/
theorem ru_dat {f : Fn} {vs as : List Vl} {d : D} {m' : Sto} (ha : vs ++ (f.dfl.drop (vs.length + f.dfl.length - f.np)).map Vl.dat = as) (hl : as.length = f.np) (hc : f.nc = 0) (hm : m'.length = m.length)
    (h : exs W C m.length f.body (as.map some ++ List.replicate (f.ns - f.np) none) m = .ok (.ret (.vl (.dat d))) m') : runF W C f vs m = .ok (.vl (.dat d)) m' := by
  refine ru ha hl ?_
  rw [hc, List.replicate_zero, List.append_nil, h]
  simp [outOk, ← hm]
/-- a def that falls off its end -/
theorem ru_non {f : Fn} {vs as : List Vl} {s' : Slots} {m' : Sto} (ha : vs ++ (f.dfl.drop (vs.length + f.dfl.length - f.np)).map Vl.dat = as) (hl : as.length = f.np) (hc : f.nc = 0) (hm : m'.length = m.length)
    (h : exs W C m.length f.body (as.map some ++ List.replicate (f.ns - f.np) none) m = .ok (.nx s') m') : runF W C f vs m = .ok (.vl (.dat .non)) m' := by
  refine ru ha hl ?_
  rw [hc, List.replicate_zero, List.append_nil, h]
  dsimp only
  rw [← hm, List.take_length]
theorem ru_new {f : Fn} {vs as : List Vl} {d : List D} {m' : Sto} (ha : vs ++ (f.dfl.drop (vs.length + f.dfl.length - f.np)).map Vl.dat = as) (hl : as.length = f.np) (hc : f.nc = 0) (hm : m'.length = m.length)
    (h : exs W C m.length f.body (as.map some ++ List.replicate (f.ns - f.np) none) m = .ok (.ret (.new d)) m') : runF W C f vs m = .ok (.new d) m' := by
  refine ru ha hl ?_
  rw [hc, List.replicate_zero, List.append_nil, h]
  simp [outOk, ← hm]
/-- a for over items that keeps a word of the slots and the store -/
theorem forF_inv {f : D → Slots → Sto → R Out} (P : List D → Slots → Sto → Prop) : ∀ {xs : List D} {s : Slots} {m : Sto}, P xs s m → (∀ x r s m, P (x :: r) s m → ∃ s' m', f x s m = .ok (.nx s') m' ∧ P r s' m') → ∃ s' m', forF f xs s m = .ok (.nx s') m' ∧ P [] s' m'
  | [], s, m, h, _ => ⟨s, m, rfl, h⟩
  | x :: r, s, m, h, hs => by
    obtain ⟨s1, m1, e, h1⟩ := hs x r s m h
    obtain ⟨s2, m2, e2, h2⟩ := forF_inv P h1 hs
    refine ⟨s2, m2, ?_, h2⟩
    unfold forF
    rw [e, bi_ok]
    exact e2
end
end EV

set_option linter.all false
set_option Elab.async false
namespace POLY
/-! ### words as lists of fractions: coefficients, action on sequences -/
/-- the coefficient at n -/
def cf (p : List Rat) (n : Nat) : Rat := p.getD n 0
/-- no nought at the end -/
def trim (p : List Rat) : Prop := ∀ h : p ≠ [], p.getLast h ≠ 0
/-- what a word makes of a sequence: the product by coefficients -/
def act : List Rat → (Nat → Rat) → Nat → Rat
  | [], _, _ => 0
  | a :: p, g, n => a * g n + (match n with
    | 0 => 0
    | k + 1 => act p g k)
theorem act_add (p : List Rat) (g h : Nat → Rat) : ∀ n, act p (fun k => g k + h k) n = act p g n + act p h n := by
  induction p with
  | nil => intro n; simp [act, Rat.add_zero, Rat.zero_add, Rat.mul_zero]
  | cons a p ih =>
    intro n
    cases n with
    | zero => simp [act, Rat.mul_add, Rat.add_zero]
    | succ k =>
      simp only [act, ih, Rat.mul_add]
      rw [Rat.add_assoc, Rat.add_assoc, ← Rat.add_assoc (a * h (k + 1)), Rat.add_comm (a * h (k + 1)) (act p g k), Rat.add_assoc]
theorem act_zero (p : List Rat) : ∀ n, act p (fun _ => 0) n = 0 := by
  induction p with
  | nil => intro n; rfl
  | cons a p ih =>
    intro n
    cases n with
    | zero => simp [act, Rat.add_zero, Rat.zero_add, Rat.mul_zero]
    | succ k => simp [act, ih, Rat.add_zero, Rat.mul_zero]
theorem act_scale (p : List Rat) (c : Rat) (g : Nat → Rat) : ∀ n, act p (fun k => c * g k) n = c * act p g n := by
  induction p with
  | nil => intro n; simp [act, Rat.add_zero, Rat.zero_add, Rat.mul_zero]
  | cons a p ih =>
    intro n
    cases n with
    | zero => simp only [act, Rat.add_zero]; rw [← Rat.mul_assoc, Rat.mul_comm a c, Rat.mul_assoc]
    | succ k =>
      simp only [act, ih, Rat.mul_add]
      rw [← Rat.mul_assoc, Rat.mul_comm a c, Rat.mul_assoc]
/-- a day later -/
def sh (g : Nat → Rat) : Nat → Rat
  | 0 => 0
  | k + 1 => g k
theorem act_sh (p : List Rat) (g : Nat → Rat) : ∀ n, act p (sh g) n = sh (act p g) n := by
  induction p with
  | nil => intro n; cases n <;> rfl
  | cons a p ih =>
    intro n
    cases n with
    | zero => simp [act, sh, Rat.add_zero, Rat.mul_zero]
    | succ k =>
      simp only [act, sh, ih]
theorem act_eq {g h : Nat → Rat} (p : List Rat) (e : ∀ n, g n = h n) : ∀ n, act p g n = act p h n := by
  have : g = h := funext e
  subst this
  exact fun _ => rfl
/-- the coefficients of a list, as a sequence -/
theorem cf_nil (n : Nat) : cf [] n = 0 := rfl
theorem cf_zero (a : Rat) (p : List Rat) : cf (a :: p) 0 = a := rfl
theorem cf_succ (a : Rat) (p : List Rat) (n : Nat) : cf (a :: p) (n + 1) = cf p n := rfl
/-- sum and product as lists -/
def addL : List Rat → List Rat → List Rat
  | [], q => q
  | a :: p, [] => a :: p
  | a :: p, b :: q => (a + b) :: addL p q
def mulL : List Rat → List Rat → List Rat
  | [], _ => []
  | a :: p, q => addL (q.map (a * ·)) (0 :: mulL p q)
theorem cf_addL : ∀ (p q : List Rat) (n : Nat), cf (addL p q) n = cf p n + cf q n
  | [], q, n => by simp [addL, cf_nil, Rat.zero_add]
  | a :: p, [], n => by simp [addL, cf_nil, Rat.add_zero]
  | a :: p, b :: q, 0 => rfl
  | a :: p, b :: q, n + 1 => by
    show cf (addL p q) n = _
    rw [cf_addL p q n]
    rfl
theorem act_addL (g : Nat → Rat) : ∀ (p q : List Rat) (n : Nat), act (addL p q) g n = act p g n + act q g n
  | [], q, n => by simp [addL, act, Rat.zero_add]
  | a :: p, [], n => by
    show _ = _ + (0 : Rat)
    rw [Rat.add_zero]
    rfl
  | a :: p, b :: q, 0 => by simp [addL, act, Rat.add_mul, Rat.add_zero]
  | a :: p, b :: q, n + 1 => by
    simp only [addL, act, act_addL g p q n, Rat.add_mul]
    rw [Rat.add_assoc, Rat.add_assoc, ← Rat.add_assoc (b * g (n + 1)), Rat.add_comm (b * g (n + 1)) (act p g n), Rat.add_assoc]
theorem act_map (a : Rat) (g : Nat → Rat) : ∀ (q : List Rat) (n : Nat), act (q.map (a * ·)) g n = a * act q g n
  | [], n => by simp [act, Rat.mul_zero]
  | b :: q, 0 => by simp [act, Rat.add_zero, Rat.mul_assoc]
  | b :: q, n + 1 => by
    simp only [List.map, act, act_map a g q n, Rat.mul_add, Rat.mul_assoc]
theorem act_late (g : Nat → Rat) (q : List Rat) : ∀ n : Nat, act (0 :: q) g n = sh (act q g) n
  | 0 => by simp [act, sh, Rat.zero_mul, Rat.add_zero]
  | n + 1 => by simp [act, sh, Rat.zero_mul, Rat.zero_add]
theorem act_cons (a : Rat) (p : List Rat) (g : Nat → Rat) : ∀ n, act (a :: p) g n = a * g n + sh (act p g) n
  | 0 => rfl
  | n + 1 => rfl
theorem act_mulL (g : Nat → Rat) (q : List Rat) : ∀ (p : List Rat) (n : Nat), act (mulL p q) g n = act p (act q g) n
  | [], n => rfl
  | a :: p, n => by
    show act (addL _ _) g n = _
    rw [act_addL, act_map, act_late, act_cons]
    congr 1
    cases n with
    | zero => rfl
    | succ k => exact act_mulL g q p k
theorem cf_map (a : Rat) : ∀ (q : List Rat) (n : Nat), cf (q.map (a * ·)) n = a * cf q n
  | [], n => by simp [cf_nil, Rat.mul_zero]
  | b :: q, 0 => rfl
  | b :: q, n + 1 => cf_map a q n
theorem cf_mulL (q : List Rat) : ∀ (p : List Rat) (n : Nat), cf (mulL p q) n = act p (cf q) n
  | [], n => rfl
  | a :: p, n => by
    show cf (addL _ _) n = _
    rw [cf_addL, cf_map, act_cons]
    congr 1
    cases n with
    | zero => rfl
    | succ k => exact cf_mulL q p k
/-! ### one list for each sequence -/
theorem trim_tail {a : Rat} {p : List Rat} (h : trim (a :: p)) : trim p := fun hp => by
  have := h (List.cons_ne_nil a p)
  rwa [List.getLast_cons hp] at this
theorem cf_last {p : List Rat} (h : p ≠ []) : cf p (p.length - 1) = p.getLast h := by
  unfold cf
  rw [List.getLast_eq_getElem, List.getD_eq_getElem?_getD, List.getElem?_eq_getElem (by have := List.length_pos_iff.mpr h; omega)]
  rfl
theorem trim_eq : ∀ {p q : List Rat}, trim p → trim q → (∀ n, cf p n = cf q n) → p = q
  | [], [], _, _, _ => rfl
  | [], b :: q, _, hq, e => by
    have h := cf_last (List.cons_ne_nil b q)
    rw [← e] at h
    exact absurd h.symm (hq (List.cons_ne_nil b q))
  | a :: p, [], hp, _, e => by
    have h := cf_last (List.cons_ne_nil a p)
    rw [e] at h
    exact absurd h.symm (hp (List.cons_ne_nil a p))
  | a :: p, b :: q, hp, hq, e => by
    have h0 : a = b := e 0
    have h1 : p = q := trim_eq (trim_tail hp) (trim_tail hq) fun n => e (n + 1)
    rw [h0, h1]
/-- noughts at the end cut off -/
def cut : List Rat → List Rat
  | [] => []
  | a :: p => match cut p with
    | [] => if a = 0 then [] else [a]
    | b :: q => a :: b :: q
theorem cf_cut : ∀ (p : List Rat) (n : Nat), cf (cut p) n = cf p n
  | [], _ => rfl
  | a :: p, n => by
    unfold cut
    have ih := cf_cut p
    split
    · rename_i e
      rw [e] at ih
      split
      · rename_i h
        subst h
        cases n with
        | zero => rfl
        | succ k => exact ih k
      · cases n with
        | zero => rfl
        | succ k => exact ih k
    · rename_i b q e
      rw [e] at ih
      cases n with
      | zero => rfl
      | succ k => exact ih k
theorem trim_cut : ∀ p : List Rat, trim (cut p)
  | [] => fun h => absurd rfl h
  | a :: p => by
    unfold cut
    have ih := trim_cut p
    split
    · split
      · exact fun h => absurd rfl h
      · rename_i h
        exact fun _ => h
    · rename_i b q e
      rw [e] at ih
      intro h
      rw [List.getLast_cons (List.cons_ne_nil b q)]
      exact ih (List.cons_ne_nil b q)
end POLY
namespace POLY
/-! ### numbers over powers of six -/
/-- an integer below 2^b over 6^k -/
def Nm (k b : Nat) (q : Rat) : Prop := ∃ a : Int, a.natAbs < 2 ^ b ∧ q = Rat.divInt a ((6 ^ k : Nat) : Int)
theorem six_ne (k : Nat) : ((6 ^ k : Nat) : Int) ≠ 0 := by
  have : 0 < 6 ^ k := Nat.pow_pos (by decide)
  omega
theorem Nm.zero (k b : Nat) : Nm k b 0 := ⟨0, Nat.pow_pos (by decide), (Rat.zero_divInt _).symm⟩
theorem Nm.mono {k b c : Nat} {q : Rat} (h : Nm k b q) (hb : b ≤ c) : Nm k c q := let ⟨a, h1, h2⟩ := h; ⟨a, Nat.lt_of_lt_of_le h1 (Nat.pow_le_pow_right (by decide) hb), h2⟩
theorem Nm.add {k b : Nat} {p q : Rat} (hp : Nm k b p) (hq : Nm k b q) : Nm k (b + 1) (p + q) := by
  obtain ⟨x, h1, rfl⟩ := hp
  obtain ⟨y, h2, rfl⟩ := hq
  refine ⟨x + y, ?_, ?_⟩
  · have := Int.natAbs_add_le x y
    rw [Nat.pow_succ]
    omega
  · rw [Rat.divInt_add_divInt _ _ (six_ne k) (six_ne k), ← Int.add_mul, Rat.divInt_mul_right (six_ne k)]
theorem Nm.mul {k l b c : Nat} {p q : Rat} (hp : Nm k b p) (hq : Nm l c q) : Nm (k + l) (b + c) (p * q) := by
  obtain ⟨x, h1, rfl⟩ := hp
  obtain ⟨y, h2, rfl⟩ := hq
  refine ⟨x * y, ?_, ?_⟩
  · rw [Int.natAbs_mul, Nat.pow_add]
    exact Nat.mul_lt_mul'' h1 h2
  · rw [Rat.divInt_mul_divInt, Nat.pow_add, Int.natCast_mul]
/-! ### words -/
def addW (p q : List Rat) : List Rat := cut (addL p q)
def mulW (p q : List Rat) : List Rat := cut (mulL p q)
theorem cut_mem : ∀ {p : List Rat} {x : Rat}, x ∈ cut p → x ∈ p
  | [], _, h => h
  | a :: p, x, h => by
    unfold cut at h
    split at h
    · split at h
      · cases h
      · rw [List.mem_singleton] at h
        rw [h]; exact List.mem_cons_self
    · rename_i b q e
      rcases List.mem_cons.mp h with rfl | h
      · exact List.mem_cons_self
      · rw [← e] at h
        exact List.mem_cons_of_mem _ (cut_mem h)
theorem cut_len : ∀ p : List Rat, (cut p).length ≤ p.length
  | [] => Nat.le_refl _
  | a :: p => by
    have ih := cut_len p
    unfold cut
    split
    · split <;> simp
    · rename_i b q e
      rw [e] at ih
      simp at ih ⊢
      omega
theorem cut_id {p : List Rat} (h : trim p) : cut p = p := trim_eq (trim_cut p) h (cf_cut p)
theorem addL_len : ∀ p q : List Rat, (addL p q).length = max p.length q.length
  | [], q => by simp [addL]
  | a :: p, [] => by simp [addL]
  | a :: p, b :: q => by simp [addL, addL_len p q]
theorem addL_nm {k b : Nat} : ∀ {p q : List Rat}, (∀ x ∈ p, Nm k b x) → (∀ x ∈ q, Nm k b x) → ∀ x ∈ addL p q, Nm k (b + 1) x
  | [], q, _, h, x, hx => (h x hx).mono (by omega)
  | a :: p, [], h, _, x, hx => (h x hx).mono (by omega)
  | a :: p, c :: q, h, h', x, hx => by
    rcases List.mem_cons.mp hx with rfl | hx
    · exact (h a List.mem_cons_self).add (h' c List.mem_cons_self)
    · exact addL_nm (fun y hy => h y (List.mem_cons_of_mem _ hy)) (fun y hy => h' y (List.mem_cons_of_mem _ hy)) x hx
theorem mulL_len : ∀ p q : List Rat, (mulL p q).length ≤ p.length + q.length
  | [], q => by simp [mulL]
  | a :: p, q => by
    have := mulL_len p q
    simp [mulL, addL_len]
    omega
theorem mulL_nm {k l b c : Nat} {q : List Rat} (hq : ∀ x ∈ q, Nm l c x) : ∀ {p : List Rat}, (∀ x ∈ p, Nm k b x) → ∀ x ∈ mulL p q, Nm (k + l) (b + c + p.length) x
  | [], _, x, hx => by cases hx
  | a :: p, h, x, hx => by
    have ih := mulL_nm hq fun y hy => h y (List.mem_cons_of_mem a hy)
    have := addL_nm (k := k + l) (b := b + c + p.length) (p := q.map (a * ·)) (q := 0 :: mulL p q) (fun y hy => by
      obtain ⟨z, hz, rfl⟩ := List.mem_map.mp hy
      exact ((h a List.mem_cons_self).mul (hq z hz)).mono (by omega)) (fun y hy => by
      rcases List.mem_cons.mp hy with rfl | hy
      · exact .zero _ _
      · exact ih y hy) x hx
    exact this
structure Wo (k b l : Nat) (p : List Rat) : Prop where
  tr : trim p
  ln : p.length ≤ l
  nm : ∀ x ∈ p, Nm k b x
theorem Wo.mono {k b l b' l' : Nat} {p : List Rat} (h : Wo k b l p) (hb : b ≤ b') (hl : l ≤ l') : Wo k b' l' p := ⟨h.tr, Nat.le_trans h.ln hl, fun x hx => (h.nm x hx).mono hb⟩
theorem trim_nil : trim [] := fun h => absurd rfl h
theorem Wo.nil (k b l : Nat) : Wo k b l [] := ⟨trim_nil, Nat.zero_le _, fun x hx => by cases hx⟩
theorem Wo.add {k b l : Nat} {p q : List Rat} (hp : Wo k b l p) (hq : Wo k b l q) : Wo k (b + 1) l (addW p q) :=
  ⟨trim_cut _, Nat.le_trans (cut_len _) (by rw [addL_len]; have := hp.ln; have := hq.ln; omega), fun x hx => addL_nm hp.nm hq.nm x (cut_mem hx)⟩
theorem Wo.mul {k b l k' b' l' : Nat} {p q : List Rat} (hp : Wo k b l p) (hq : Wo k' b' l' q) : Wo (k + k') (b + b' + l) (l + l') (mulW p q) :=
  ⟨trim_cut _, Nat.le_trans (cut_len _) (Nat.le_trans (mulL_len p q) (by have := hp.ln; have := hq.ln; omega)), fun x hx => (mulL_nm hq.nm hp.nm x (cut_mem hx)).mono (by have := hp.ln; omega)⟩
theorem cf_addW (p q : List Rat) (n : Nat) : cf (addW p q) n = cf p n + cf q n := by rw [addW, cf_cut, cf_addL]
theorem cf_mulW (p q : List Rat) (n : Nat) : cf (mulW p q) n = act p (cf q) n := by rw [mulW, cf_cut, cf_mulL]
theorem act_cut (g : Nat → Rat) : ∀ (p : List Rat) (n : Nat), act (cut p) g n = act p g n
  | [], _ => rfl
  | a :: p, n => by
    have ih := act_cut g p
    unfold cut
    split
    · rename_i e
      rw [e] at ih
      rw [act_cons]
      have z : ∀ k, act p g k = 0 := fun k => (ih k).symm
      have z2 : sh (act p g) n = 0 := by cases n with | zero => rfl | succ k => exact z k
      rw [z2]
      split
      · rename_i h
        rw [h, Rat.zero_mul, Rat.add_zero]
        rfl
      · rw [act_cons]
        congr 1
        cases n <;> rfl
    · rename_i b q e
      rw [e] at ih
      rw [act_cons, act_cons a p]
      congr 1
      cases n with
      | zero => rfl
      | succ k => exact ih k
theorem act_addW (p q : List Rat) (g : Nat → Rat) (n : Nat) : act (addW p q) g n = act p g n + act q g n := by rw [addW, act_cut, act_addL]
theorem act_mulW (p q : List Rat) (g : Nat → Rat) (n : Nat) : act (mulW p q) g n = act p (act q g) n := by rw [mulW, act_cut, act_mulL]
theorem mulW_nil (q : List Rat) : mulW [] q = [] := rfl
theorem addW_nil {q : List Rat} (h : trim q) : addW [] q = q := cut_id h
theorem addW_nil' {q : List Rat} (h : trim q) : addW q [] = q := trim_eq (trim_cut _) h fun n => by rw [cf_addW, cf_nil, Rat.add_zero]
theorem mulW_nil' (q : List Rat) : mulW q [] = [] := trim_eq (trim_cut _) trim_nil fun n => by
  rw [cf_mulW]
  exact act_zero q n
/-! ### some days later -/
def late (i : Nat) (g : Nat → Rat) (n : Nat) : Rat := if n < i then 0 else g (n - i)
theorem late_zero (g : Nat → Rat) (n : Nat) : late 0 g n = g n := by simp [late]
theorem late_add (i : Nat) (g h : Nat → Rat) (n : Nat) : late i (fun k => g k + h k) n = late i g n + late i h n := by
  unfold late
  split
  · rw [Rat.add_zero]
  · rfl
theorem late_cons (i : Nat) (a : Rat) (p : List Rat) (n : Nat) : late i (cf (a :: p)) n = (if n = i then a else 0) + late (i + 1) (cf p) n := by
  unfold late
  by_cases h1 : n < i
  · rw [if_pos h1, if_neg (by omega), if_pos (by omega), Rat.add_zero]
  · rw [if_neg h1]
    by_cases h2 : n = i
    · subst h2
      rw [if_pos rfl, if_pos (by omega), Nat.sub_self, Rat.add_zero]
      rfl
    · obtain ⟨k, rfl⟩ : ∃ k, n = i + 1 + k := ⟨n - (i + 1), by omega⟩
      rw [if_neg h2, if_neg (by omega), Rat.zero_add]
      have e1 : i + 1 + k - i = k + 1 := by omega
      have e2 : i + 1 + k - (i + 1) = k := by omega
      rw [e1, e2]
      rfl
theorem cf_rep : ∀ (i : Nat) (p : List Rat) (n : Nat), cf (List.replicate i 0 ++ p) n = late i (cf p) n
  | 0, p, n => (late_zero _ _).symm
  | i + 1, p, 0 => by simp [late, List.replicate_succ, cf_zero]
  | i + 1, p, n + 1 => by
    show cf (List.replicate i 0 ++ p) n = _
    rw [cf_rep i p n]
    unfold late
    by_cases h : n < i
    · rw [if_pos h, if_pos (by omega)]
    · rw [if_neg h, if_neg (by omega)]
      congr 1
      omega
theorem late_mulL (i : Nat) (a : Rat) (p q : List Rat) (n : Nat) : late i (cf (mulL (a :: p) q)) n = late i (cf (q.map (a * ·))) n + late (i + 1) (cf (mulL p q)) n := by
  have e : cf (mulL (a :: p) q) = fun k => cf (q.map (a * ·)) k + cf (0 :: mulL p q) k := by
    funext k
    show cf (addL _ _) k = _
    rw [cf_addL]
  rw [e, late_add, late_cons]
  congr 1
  split <;> rw [Rat.zero_add]
theorem cf_set {p : List Rat} {j : Nat} (h : j < p.length) (v : Rat) (n : Nat) : cf (p.set j v) n = if n = j then v else cf p n := by
  unfold cf
  rw [List.getD_eq_getElem?_getD, List.getElem?_set, List.getD_eq_getElem?_getD]
  by_cases e : n = j
  · subst e
    simp [h]
  · rw [if_neg (fun z => e z.symm), if_neg e]
/-! ### scaled, later -/
theorem trim_map {a : Rat} (ha : a ≠ 0) {p : List Rat} (h : trim p) : trim (p.map (a * ·)) := fun hn => by
  have hp : p ≠ [] := fun e => hn (by rw [e]; rfl)
  rw [List.getLast_map]
  exact fun z => (Rat.mul_eq_zero.mp z).elim ha (h hp)
theorem trim_late {p : List Rat} (i : Nat) (hp : p ≠ []) (h : trim p) : trim (List.replicate i 0 ++ p) := fun hn => by
  rw [List.getLast_append_of_ne_nil _ hp]
  exact h hp
theorem map_one (p : List Rat) : p.map (1 * ·) = p := by
  induction p with
  | nil => rfl
  | cons a p ih => rw [List.map_cons, ih, Rat.one_mul]
/-! ### rows -/
abbrev Row := List (List Rat)
def addR : Row → Row → Row := List.zipWith addW
def mulR (w : List Rat) (r : Row) : Row := r.map (mulW w)
def madeR : Row → Row → List Row → Row
  | f, w :: ws, r :: rs => madeR (if w = [] then f else addR f (mulR w r)) ws rs
  | f, _, _ => f
theorem madeR_cons (f : Row) (w : List Rat) (ws r : Row) (rs : List Row) : madeR f (w :: ws) (r :: rs) = madeR (if w = [] then f else addR f (mulR w r)) ws rs := rfl
def restR (n : Nat) : Row := List.replicate n []
def tabM (n : Nat) (A B : List Row) : List Row := A.map fun a => madeR (restR n) a B
structure Ro (k b l n : Nat) (r : Row) : Prop where
  ln : r.length = n
  wo : ∀ p ∈ r, Wo k b l p
structure Ta (k b l h n : Nat) (t : List Row) : Prop where
  ln : t.length = h
  ro : ∀ r ∈ t, Ro k b l n r
theorem Ro.mono {k b l n b' l' : Nat} {r : Row} (h : Ro k b l n r) (hb : b ≤ b') (hl : l ≤ l') : Ro k b' l' n r := ⟨h.ln, fun p hp => (h.wo p hp).mono hb hl⟩
theorem Ta.mono {k b l n m b' l' : Nat} {t : List Row} (h : Ta k b l m n t) (hb : b ≤ b') (hl : l ≤ l') : Ta k b' l' m n t := ⟨h.ln, fun p hp => (h.ro p hp).mono hb hl⟩
theorem addR_wo {k b l : Nat} : ∀ {r s : Row}, (∀ p ∈ r, Wo k b l p) → (∀ p ∈ s, Wo k b l p) → ∀ p ∈ addR r s, Wo k (b + 1) l p
  | [], _, _, _, p, hp => by cases hp
  | a :: r, [], _, _, p, hp => by cases hp
  | a :: r, c :: s, h, h', p, hp => by
    rcases List.mem_cons.mp hp with rfl | hp
    · exact (h a List.mem_cons_self).add (h' c List.mem_cons_self)
    · exact addR_wo (fun y hy => h y (List.mem_cons_of_mem _ hy)) (fun y hy => h' y (List.mem_cons_of_mem _ hy)) p hp
theorem Ro.add {k b l n : Nat} {r s : Row} (hr : Ro k b l n r) (hs : Ro k b l n s) : Ro k (b + 1) l n (addR r s) :=
  ⟨by have := hr.ln; have := hs.ln; simp [addR]; omega, addR_wo hr.wo hs.wo⟩
theorem Ro.mul {k b l k' b' l' n : Nat} {w : List Rat} {r : Row} (hw : Wo k b l w) (hr : Ro k' b' l' n r) : Ro (k + k') (b + b' + l) (l + l') n (mulR w r) :=
  ⟨by have := hr.ln; simp [mulR]; omega, fun p hp => by
    obtain ⟨q, hq, rfl⟩ := List.mem_map.mp hp
    exact hw.mul (hr.wo q hq)⟩
theorem Ro.rest (k b l n : Nat) : Ro k b l n (restR n) := ⟨by simp [restR], fun p hp => by
  rw [(List.mem_replicate.mp hp).2]
  exact .nil _ _ _⟩
theorem Ro.made {k b l k' b' l' n : Nat} : ∀ {ws : Row} {rs : List Row} {f : Row} {c : Nat}, (∀ w ∈ ws, Wo k b l w) → (∀ r ∈ rs, Ro k' b' l' n r) → Ro (k + k') c (l + l') n f → b + b' + l ≤ c → Ro (k + k') (c + ws.length) (l + l') n (madeR f ws rs)
  | [], _, f, c, _, _, hf, _ => by unfold madeR; exact hf
  | w :: ws, [], f, c, _, _, hf, _ => by unfold madeR; exact hf.mono (by omega) (Nat.le_refl _)
  | w :: ws, r :: rs, f, c, hw, hr, hf, hc => by
    unfold madeR
    have h1 : Ro (k + k') (c + 1) (l + l') n (if w = [] then f else addR f (mulR w r)) := by
      split
      · exact hf.mono (by omega) (Nat.le_refl _)
      · exact hf.add ((Ro.mul (hw w List.mem_cons_self) (hr r List.mem_cons_self)).mono hc (Nat.le_refl _))
    have := Ro.made (c := c + 1) (fun y hy => hw y (List.mem_cons_of_mem _ hy)) (fun y hy => hr y (List.mem_cons_of_mem _ hy)) h1 (by omega)
    exact this.mono (by simp; omega) (Nat.le_refl _)
theorem Ta.times {k b l k' b' l' h m n : Nat} {A B : List Row} (hA : Ta k b l h m A) (hB : Ta k' b' l' m n B) : Ta (k + k') (b + b' + l + m) (l + l') h n (tabM n A B) :=
  ⟨by have := hA.ln; simp [tabM]; omega, fun r hr => by
    obtain ⟨a, ha, rfl⟩ := List.mem_map.mp hr
    have h1 := hA.ro a ha
    have := Ro.made h1.wo hB.ro (Ro.rest _ (b + b' + l) _ _) (Nat.le_refl _)
    rw [h1.ln] at this
    exact this⟩
/-! ### columns as sequences -/
def col (r : Row) (c n : Nat) : Rat := cf (r.getD c []) n
theorem col_addR {r s : Row} (h : r.length = s.length) (c n : Nat) : col (addR r s) c n = col r c n + col s c n := by
  induction r generalizing s c with
  | nil =>
    cases s with
    | nil => simp [addR, col, cf_nil, Rat.add_zero]
    | cons => simp at h
  | cons a r ih =>
    cases s with
    | nil => simp at h
    | cons b s =>
      cases c with
      | zero => exact cf_addW a b n
      | succ c => exact ih (by simpa using h) c
theorem col_mulR (w : List Rat) (r : Row) (c n : Nat) : col (mulR w r) c n = act w (col r c) n := by
  induction r generalizing c with
  | nil => simp only [mulR, List.map_nil]; exact (act_zero w n).symm
  | cons a r ih =>
    cases c with
    | zero => exact cf_mulW w a n
    | succ c => exact ih c
def lin : Row → List Row → Nat → Nat → Rat
  | w :: ws, r :: rs, c, n => act w (col r c) n + lin ws rs c n
  | _, _, _, _ => 0
theorem made_len {W : Nat} : ∀ {ws : Row} {rs : List Row} {f : Row}, f.length = W → (∀ r ∈ rs, r.length = W) → (madeR f ws rs).length = W
  | [], _, f, hf, _ => by unfold madeR; exact hf
  | w :: ws, [], f, hf, _ => by unfold madeR; exact hf
  | w :: ws, r :: rs, f, hf, hr => by
    unfold madeR
    refine made_len ?_ fun y hy => hr y (List.mem_cons_of_mem _ hy)
    split
    · exact hf
    · have := hr r List.mem_cons_self
      simp [addR, mulR]; omega
theorem col_made {W : Nat} : ∀ {ws : Row} {rs : List Row} {f : Row} (c n : Nat), f.length = W → (∀ r ∈ rs, r.length = W) → col (madeR f ws rs) c n = col f c n + lin ws rs c n
  | [], _, f, c, n, _, _ => by unfold madeR lin; rw [Rat.add_zero]
  | w :: ws, [], f, c, n, _, _ => by unfold madeR lin; rw [Rat.add_zero]
  | w :: ws, r :: rs, f, c, n, hf, hr => by
    unfold madeR lin
    have hr' : ∀ y ∈ rs, y.length = W := fun y hy => hr y (List.mem_cons_of_mem _ hy)
    have h1 := hr r List.mem_cons_self
    by_cases e : w = []
    · subst e
      rw [if_pos rfl, col_made c n hf hr']
      show _ = _ + (0 + _)
      rw [Rat.zero_add]
    · rw [if_neg e, col_made c n (by simp [addR, mulR]; omega) hr', col_addR (by simp [mulR]; omega), col_mulR, Rat.add_assoc]
theorem lin_addR : ∀ {v v' : Row} (C : List Row) (c n : Nat), v.length = v'.length → lin (addR v v') C c n = lin v C c n + lin v' C c n
  | [], [], C, c, n, _ => by simp [addR, lin, Rat.add_zero]
  | [], _ :: _, C, c, n, h => by simp at h
  | _ :: _, [], C, c, n, h => by simp at h
  | a :: v, b :: v', [], c, n, h => by simp [addR, lin, Rat.add_zero]
  | a :: v, b :: v', r :: C, c, n, h => by
    show act (addW a b) (col r c) n + lin (addR v v') C c n = (act a (col r c) n + lin v C c n) + (act b (col r c) n + lin v' C c n)
    rw [act_addW, lin_addR C c n (by simpa using h), Rat.add_assoc, Rat.add_assoc, ← Rat.add_assoc (act b (col r c) n), Rat.add_comm (act b (col r c) n) (lin v C c n), Rat.add_assoc]
theorem lin_mulR (w : List Rat) : ∀ (v : Row) (C : List Row) (c n : Nat), lin (mulR w v) C c n = act w (lin v C c) n
  | [], C, c, n => (act_zero w n).symm
  | a :: v, [], c, n => (act_zero w n).symm
  | a :: v, r :: C, c, n => by
    show act (mulW w a) (col r c) n + lin (mulR w v) C c n = act w (fun k => act a (col r c) k + lin v C c k) n
    rw [act_mulW, act_add, lin_mulR w v C c n]
theorem lin_rest : ∀ (m : Nat) (C : List Row) (c n : Nat), lin (restR m) C c n = 0
  | 0, C, c, n => rfl
  | m + 1, [], c, n => rfl
  | m + 1, r :: C, c, n => by
    show act [] (col r c) n + lin (restR m) C c n = 0
    rw [lin_rest m C c n]
    show (0 : Rat) + 0 = 0
    rw [Rat.add_zero]
theorem lin_made (C : List Row) {W V : Nat} (hC : ∀ r ∈ C, r.length = V) : ∀ {a : Row} {B : List Row} {f : Row} (c n : Nat), f.length = W → (∀ r ∈ B, r.length = W) → lin (madeR f a B) C c n = lin f C c n + lin a (B.map fun b => madeR (restR V) b C) c n
  | [], _, f, c, n, _, _ => by
    show _ = _ + (0 : Rat)
    unfold madeR; rw [Rat.add_zero]
  | w :: ws, [], f, c, n, _, _ => by
    show _ = _ + (0 : Rat)
    unfold madeR; rw [Rat.add_zero]
  | w :: ws, b :: B, f, c, n, hf, hB => by
    rw [madeR_cons]
    have hB' : ∀ y ∈ B, y.length = W := fun y hy => hB y (List.mem_cons_of_mem _ hy)
    have h1 := hB b List.mem_cons_self
    have e2 : col (madeR (restR V) b C) c = lin b C c := by
      funext k
      rw [col_made (W := V) c k (by simp [restR]) hC]
      have z : col (restR V) c k = 0 := by
        unfold col restR
        rw [List.getD_eq_getElem?_getD, List.getElem?_replicate]
        split <;> rfl
      rw [z, Rat.zero_add]
    show _ = _ + (act w (col (madeR (restR V) b C) c) n + lin ws (B.map fun b => madeR (restR V) b C) c n)
    rw [e2]
    by_cases e : w = []
    · subst e
      rw [if_pos rfl, lin_made C hC c n hf hB']
      show _ = _ + ((0 : Rat) + _)
      rw [Rat.zero_add]
    · rw [if_neg e, lin_made C hC c n (by simp [addR, mulR]; omega) hB', lin_addR C c n (by simp [mulR]; omega), lin_mulR, Rat.add_assoc]
theorem row_ext {r s : Row} (hl : r.length = s.length) (hr : ∀ p ∈ r, trim p) (hs : ∀ p ∈ s, trim p) (h : ∀ c n, col r c n = col s c n) : r = s := by
  induction r generalizing s with
  | nil => cases s with
    | nil => rfl
    | cons => simp at hl
  | cons a r ih =>
    cases s with
    | nil => simp at hl
    | cons b s =>
      have e1 : a = b := trim_eq (hr a List.mem_cons_self) (hs b List.mem_cons_self) fun n => h 0 n
      have e2 : r = s := ih (by simpa using hl) (fun y hy => hr y (List.mem_cons_of_mem _ hy)) (fun y hy => hs y (List.mem_cons_of_mem _ hy)) fun c n => h (c + 1) n
      rw [e1, e2]
theorem col_rest (m c n : Nat) : col (restR m) c n = 0 := by
  unfold col restR
  rw [List.getD_eq_getElem?_getD, List.getElem?_replicate]
  split <;> rfl
/-- it does not matter which two are taken first -/
theorem tab_assoc {k b l k' b' l' k2 b2 l2 h m p w : Nat} {A B C : List Row} (hA : Ta k b l h m A) (hB : Ta k' b' l' m p B) (hC : Ta k2 b2 l2 p w C) : tabM w (tabM p A B) C = tabM w A (tabM w B C) := by
  have hAB := hA.times hB
  have hBC := hB.times hC
  have hl := hAB.times hC
  have hr := hA.times hBC
  unfold tabM
  rw [List.map_map]
  refine List.map_congr_left fun a ha => ?_
  have ra := hA.ro a ha
  have m1 := hl.ro (madeR (restR w) (madeR (restR p) a B) C) (by unfold tabM; rw [List.map_map]; exact List.mem_map.mpr ⟨a, ha, rfl⟩)
  have m2 := hr.ro (madeR (restR w) a (tabM w B C)) (List.mem_map.mpr ⟨a, ha, rfl⟩)
  refine row_ext (m1.ln.trans m2.ln.symm) (fun y hy => (m1.wo y hy).tr) (fun y hy => (m2.wo y hy).tr) fun c n => ?_
  show col (madeR (restR w) (madeR (restR p) a B) C) c n = _
  rw [col_made (W := w) c n (by simp [restR]) (fun r hr => (hC.ro r hr).ln), col_made (W := w) c n (by simp [restR]) (fun r hr => by
    obtain ⟨y, hy, rfl⟩ := List.mem_map.mp hr
    exact ((hBC.ro _ (List.mem_map.mpr ⟨y, hy, rfl⟩)).ln)), col_rest, Rat.zero_add, Rat.zero_add]
  rw [lin_made (W := p) (V := w) C (fun r hr => (hC.ro r hr).ln) c n (by simp [restR]) (fun r hr => (hB.ro r hr).ln), lin_rest, Rat.zero_add]
/-! ### the unit table -/
def unitR (n i : Nat) : Row := (List.range n).map fun j => if j = i then [1] else []
def unitT (n : Nat) : List Row := (List.range n).map (unitR n)
theorem lin_unit : ∀ (k s i : Nat) (C : List Row) (c n : Nat), C.length = k → lin ((List.range' s k).map fun j => if j = i then [1] else []) C c n = if s ≤ i then col (C.getD (i - s) []) c n else 0
  | 0, s, i, [], c, n, _ => by
    show (0 : Rat) = _
    split
    · simp [col, cf_nil]
    · rfl
  | 0, s, i, _ :: _, c, n, h => by simp at h
  | k + 1, s, i, [], c, n, h => by simp at h
  | k + 1, s, i, r :: C, c, n, h => by
    have ih := lin_unit k (s + 1) i C c n (by simpa using h)
    rw [List.range'_succ, List.map_cons]
    show act (if s = i then [1] else []) (col r c) n + lin ((List.range' (s + 1) k).map fun j => if j = i then [1] else []) C c n = _
    rw [ih]
    by_cases e : s = i
    · subst e
      rw [if_pos rfl, if_neg (by omega), if_pos (Nat.le_refl _), Rat.add_zero, Nat.sub_self, act_cons, Rat.one_mul]
      have : sh (act [] (col r c)) n = 0 := by cases n <;> rfl
      rw [this, Rat.add_zero]
      rfl
    · rw [if_neg e]
      show (0 : Rat) + _ = _
      rw [Rat.zero_add]
      by_cases h2 : s ≤ i
      · rw [if_pos h2, if_pos (by omega)]
        obtain ⟨j, rfl⟩ : ∃ j, i = s + 1 + j := ⟨i - (s + 1), by omega⟩
        have e1 : s + 1 + j - (s + 1) = j := by omega
        have e2 : s + 1 + j - s = j + 1 := by omega
        rw [e1, e2]
        rfl
      · rw [if_neg h2, if_neg (by omega)]
theorem addR_tr : ∀ {r s : Row}, ∀ p ∈ addR r s, trim p
  | [], _, p, hp => by cases hp
  | a :: r, [], p, hp => by cases hp
  | a :: r, c :: s, p, hp => by
    rcases List.mem_cons.mp hp with rfl | hp
    · exact trim_cut _
    · exact addR_tr p hp
theorem made_tr : ∀ {ws : Row} {rs : List Row} {f : Row}, (∀ p ∈ f, trim p) → ∀ p ∈ madeR f ws rs, trim p
  | [], _, f, hf => by unfold madeR; exact hf
  | w :: ws, [], f, hf => by unfold madeR; exact hf
  | w :: ws, r :: rs, f, hf => by
    rw [madeR_cons]
    refine made_tr ?_
    split
    · exact hf
    · intro p hp
      exact addR_tr p hp
theorem unit_times {k b l h n : Nat} {A : List Row} (hA : Ta k b l h n A) : tabM n (unitT h) A = A := by
  refine List.ext_getElem (by simp [tabM, unitT, hA.ln]) fun i h1 h2 => ?_
  have hi : i < h := by rw [← hA.ln]; exact h2
  have e : (tabM n (unitT h) A)[i] = madeR (restR n) (unitR h i) A := by simp [tabM, unitT]
  rw [e]
  have ra := hA.ro A[i] (List.getElem_mem h2)
  have hl : ∀ r ∈ A, r.length = n := fun r hr => (hA.ro r hr).ln
  refine row_ext ((made_len (W := n) (by simp [restR]) hl).trans ra.ln.symm) (made_tr fun p hp => by rw [(List.mem_replicate.mp hp).2]; exact trim_nil) (fun y hy => (ra.wo y hy).tr) fun c m => ?_
  rw [col_made (W := n) c m (by simp [restR]) hl, col_rest, Rat.zero_add]
  unfold unitR
  rw [List.range_eq_range', lin_unit h 0 i A c m hA.ln, if_pos (Nat.zero_le _), Nat.sub_zero, List.getD_eq_getElem?_getD, List.getElem?_eq_getElem h2]
  rfl
end POLY

set_option Elab.async false
set_option linter.all false
set_option maxRecDepth 100000
set_option maxHeartbeats 1000000
/-! EV, part T: loops and comprehensions at the head of a chain. -/
namespace EV
open PySem L2
section
variable {α β γ : Type} {W : Wd} {C : Cal} {b : Nat} {s : Slots} {m m1 : Sto} {vs : List Vl} {ds : List D} {enc : α → D} {tg : Tg} {ik : IK} {src : List Ex} {body : List EV.St} {ifs : List Tx} {elt : Ex} {z : R β}
theorem bi_asc (r : R α) (f : α → Sto → R β) (g : β → Sto → R γ) : (r.bind f).bind g = r.bind fun a m => (f a m).bind g := by cases r <;> rfl
theorem szk {n : Nat} (h : n ≤ 1000) : szOk n = true := decide_eq_true (Nat.le_trans h (by decide))
theorem forF_enc {f : D → Slots → Sto → R Out} (P : List α → Slots → Sto → Prop) : ∀ {l : List α} {s : Slots} {m : Sto}, P l s m → (∀ x r s m, P (x :: r) s m → ∃ s' m', f (enc x) s m = .ok (.nx s') m' ∧ P r s' m') → ∃ s' m', forF f (l.map enc) s m = .ok (.nx s') m' ∧ P [] s' m'
  | [], s, m, h, _ => ⟨s, m, rfl, h⟩
  | x :: r, s, m, h, hs => by
    obtain ⟨s1, m1, e, h1⟩ := hs x r s m h
    obtain ⟨s2, m2, e2, h2⟩ := forF_enc P h1 hs
    refine ⟨s2, m2, ?_, h2⟩
    show forF f (enc x :: r.map enc) s m = _
    unfold forF
    rw [e, bi_ok]
    exact e2
theorem for_ok (P : List α → Slots → Sto → Prop) (l : List α) (hsrc : evs W C src s m = .ok vs m1) (hd : datsOf vs = some ds) (hw : walkD ik ds = some (l.map enc)) (hz : l.length ≤ 1000) (h0 : P l s m1)
    (hs : ∀ x r s m, P (x :: r) s m → ∃ s' m', forStep W C b tg body (enc x) s m = .ok (.nx s') m' ∧ P r s' m') : ∃ s' m', exS W C b (.fort tg ik src body) s m = .ok (.nx s') m' ∧ P [] s' m' := by
  obtain ⟨s', m', e, h⟩ := forF_enc P h0 hs
  refine ⟨s', m', ?_, h⟩
  rw [x_for, hsrc, bi_ok]
  simp only [hd, hw]
  rw [if_pos (szk (by rw [List.length_map]; exact hz))]
  exact e
theorem bind_for (P : List α → Slots → Sto → Prop) (l : List α) (hsrc : evs W C src s m = .ok vs m1) (hd : datsOf vs = some ds) (hw : walkD ik ds = some (l.map enc)) (hz : l.length ≤ 1000) (h0 : P l s m1)
    (hs : ∀ x r s m, P (x :: r) s m → ∃ s' m', forStep W C b tg body (enc x) s m = .ok (.nx s') m' ∧ P r s' m') {g : Out → Sto → R β} (k : ∀ s' m', P [] s' m' → g (.nx s') m' = z) : (exS W C b (.fort tg ik src body) s m).bind g = z := by
  obtain ⟨s', m', e, h⟩ := for_ok P l hsrc hd hw hz h0 hs
  rw [e, bi_ok]
  exact k s' m' h
theorem loop_enc {f : D → Sto → R (Option D)} {g : α → D} : ∀ {l : List α} {acc : List D}, (∀ x ∈ l, f (enc x) m = .ok (some (g x)) m) → loopC f (l.map enc) acc m = .ok (acc ++ l.map g) m
  | [], acc, _ => by simp [loopC]
  | x :: xs, acc, h => by
    show loopC f (enc x :: xs.map enc) acc m = _
    unfold loopC
    rw [h x List.mem_cons_self, bi_ok]
    dsimp only
    rw [loop_enc (l := xs) fun y hy => h y (List.mem_cons_of_mem _ hy)]
    simp
theorem evC_enc (g : α → D) (l : List α) (hsrc : evs W C src s m = .ok vs m1) (hd : datsOf vs = some ds) (hw : walkD ik ds = some (l.map enc)) (hz : l.length ≤ 1000)
    (hx : ∀ x ∈ l, turnC W C tg ifs elt s (enc x) m1 = .ok (some (g x)) m1) : evC W C tg ik src ifs elt s m = .ok (l.map g) m1 := by
  unfold evC
  rw [hsrc, bi_ok]
  simp only [hd, hw]
  rw [if_pos (szk (by rw [List.length_map]; exact hz)), loop_enc hx]
  simp
theorem bind_evC (g : α → D) (l : List α) (hsrc : evs W C src s m = .ok vs m1) (hd : datsOf vs = some ds) (hw : walkD ik ds = some (l.map enc)) (hz : l.length ≤ 1000)
    (hx : ∀ x ∈ l, turnC W C tg ifs elt s (enc x) m1 = .ok (some (g x)) m1) {f : List D → Sto → R β} (k : f (l.map g) m1 = z) : (evC W C tg ik src ifs elt s m).bind f = z := by
  rw [evC_enc g l hsrc hd hw hz hx, bi_ok]
  exact k
/-- a comprehension that changes the store: one item for each -/
theorem loop_st {f : D → Sto → R (Option D)} (P : List α → List D → Sto → Prop) : ∀ {l : List α} {acc : List D} {m : Sto}, P l acc m → (∀ x r acc m, P (x :: r) acc m → ∃ d m', f (enc x) m = .ok (some d) m' ∧ P r (acc ++ [d]) m') → ∃ ds m', loopC f (l.map enc) acc m = .ok ds m' ∧ P [] ds m'
  | [], acc, m, h, _ => ⟨acc, m, rfl, h⟩
  | x :: r, acc, m, h, hs => by
    obtain ⟨d, m1, e, h1⟩ := hs x r acc m h
    obtain ⟨ds, m2, e2, h2⟩ := loop_st P h1 hs
    refine ⟨ds, m2, ?_, h2⟩
    show loopC f (enc x :: r.map enc) acc m = _
    unfold loopC
    rw [e, bi_ok]
    exact e2
theorem evC_st (P : List α → List D → Sto → Prop) (l : List α) (hsrc : evs W C src s m = .ok vs m1) (hd : datsOf vs = some ds) (hw : walkD ik ds = some (l.map enc)) (hz : l.length ≤ 1000) (h0 : P l [] m1)
    (hx : ∀ x r acc m, P (x :: r) acc m → ∃ d m', turnC W C tg ifs elt s (enc x) m = .ok (some d) m' ∧ P r (acc ++ [d]) m') : ∃ ds m', evC W C tg ik src ifs elt s m = .ok ds m' ∧ P [] ds m' := by
  obtain ⟨es, m', e, h⟩ := loop_st P h0 hx
  refine ⟨es, m', ?_, h⟩
  unfold evC
  rw [hsrc, bi_ok]
  simp only [hd, hw]
  rw [if_pos (szk (by rw [List.length_map]; exact hz))]
  exact e
theorem wd_seqT (xs : List D) : walkD .seq [.tup xs] = some xs := rfl
theorem wd_seqL (xs : List D) : walkD .seq [.lst xs] = some xs := rfl
theorem wd_rng1 {n : Nat} (h : n ≤ 1000) : walkD .rng1 [.int n] = some ((List.range n).map fun i => D.int (i : Nat)) := by
  have : inRg (n : Int) = true := by simp [inRg]; omega
  simp only [walkD, this, if_true, Int.toNat_natCast, rngD]
  simp
theorem wd_enumT (xs : List α) : walkD .enum [.tup (xs.map enc)] = some (xs.zipIdx.map fun p => .tup [.int (p.2 : Nat), enc p.1]) := by
  show some ((xs.map enc).zipIdx.map _) = _
  rw [List.zipIdx_map, List.map_map]
  rfl
theorem wd_zipT {δ : Type} {enc' : δ → D} (xs : List α) (ys : List δ) : walkD .zip [.tup (xs.map enc), .tup (ys.map enc')] = some ((xs.zip ys).map fun p => .tup [enc p.1, enc' p.2]) := by
  show some (((xs.map enc).zip (ys.map enc')).map _) = _
  rw [List.zip_map, List.map_map]
  rfl
theorem wd_zipL {δ : Type} {enc' : δ → D} (xs : List α) (ys : List δ) : walkD .zip [.lst (xs.map enc), .lst (ys.map enc')] = some ((xs.zip ys).map fun p => .tup [enc p.1, enc' p.2]) := by
  show some (((xs.map enc).zip (ys.map enc')).map _) = _
  rw [List.zip_map, List.map_map]
  rfl
theorem allD_map (p : α → Bool) : ∀ l : List α, allD (l.map fun x => D.bl (p x)) = some (l.all p)
  | [] => rfl
  | x :: l => by
    show (allD (l.map _)).map (p x && ·) = _
    rw [allD_map p l]
    rfl
theorem intsD_map (f : α → Int) : ∀ l : List α, intsD (l.map fun x => D.int (f x)) = some (l.map f)
  | [] => rfl
  | x :: l => by
    show (intsD (l.map _)).map (f x :: ·) = _
    rw [intsD_map f l]
    rfl
end
/-! ### plain data: ints, None, tuples, lists -/
def Fl : List Nat → D → Prop
  | _, .int i => i.natAbs < 2 ^ 120
  | _, .non => True
  | b :: bs, .tup xs => xs.length ≤ b ∧ ∀ x ∈ xs, Fl bs x
  | b :: bs, .lst xs => xs.length ≤ b ∧ ∀ x ∈ xs, Fl bs x
  | _, _ => False
def Wt : List Nat → Nat
  | [] => 120
  | b :: bs => b * (Wt bs + 1) + 120
theorem int_fl {i : Int} (h : i.natAbs < 2 ^ 120) : (PyData.shown (.int i)).length ≤ 40 ∧ PyData.weight (.int i) ≤ 120 ∧ i.natAbs.log2 < 1920 := by
  have h2 : i.natAbs < 10 ^ 37 := Nat.lt_trans h (by decide)
  have e := int_text_length_le10 (k := 37) (by decide) h2
  have hl : i.natAbs.log2 < 120 := by
    by_cases z : i.natAbs = 0
    · rw [z, Nat.log2_zero]; decide
    · exact (Nat.log2_lt z).mpr h
  refine ⟨?_, ?_, by omega⟩
  · show (Str.ofString (toString i)).length ≤ 40
    rw [PySem.ofString_length]
    omega
  · unfold PyData.weight
    split <;> omega
structure PyOk (p : PyData) (n w : Nat) : Prop where
  sh : p.showable = true
  dp : p.depth ≤ n
  cl : p.canLay0 = true
  lv : p.leavesShort 40 = true
  wt : p.weight ≤ w
structure PysOk (p : List PyData) (n w : Nat) : Prop where
  sh : PyData.showableAll p = true
  dp : PyData.depthAll p ≤ n
  cl : PyData.canLayAll0 p = true
  lv : PyData.leavesShortAll 40 p = true
  wt : PyData.weightAll p ≤ w
theorem fl_pys {n w : Nat} {Q : D → Prop} (h : ∀ d, Q d → ∃ p, toPy d = some p ∧ PyOk p n w) : ∀ xs : List D, (∀ x ∈ xs, Q x) → ∃ ps, toPys xs = some ps ∧ PysOk ps n (xs.length * (w + 1))
  | [], _ => ⟨[], rfl, rfl, Nat.zero_le _, rfl, rfl, Nat.zero_le _⟩
  | x :: xs, hx => by
    obtain ⟨p, e, a1, a2, a3, a4, a5⟩ := h x (hx x List.mem_cons_self)
    obtain ⟨ps, es, b1, b2, b3, b4, b5⟩ := fl_pys h xs fun y hy => hx y (List.mem_cons_of_mem _ hy)
    refine ⟨p :: ps, by simp [toPys, e, es], ?_, ?_, ?_, ?_, ?_⟩
    · simp [PyData.showableAll, a1, b1]
    · simp only [PyData.depthAll]; omega
    · simp [PyData.canLayAll0, a3, b3]
    · simp [PyData.leavesShortAll, a4, b4]
    · simp only [PyData.weightAll, List.length_cons, Nat.add_mul]; omega
theorem fl_py : ∀ (bs : List Nat) (d : D), Fl bs d → ∃ p, toPy d = some p ∧ PyOk p bs.length (Wt bs)
  | [], d, h => by
    cases d with
    | int i =>
      have hi : i.natAbs < 2 ^ 120 := by unfold Fl at h; exact h
      obtain ⟨h1, h2, h3⟩ := int_fl hi
      exact ⟨.int i, rfl, by simp [PyData.showable, h3], by simp [PyData.depth], rfl, by simp [PyData.leavesShort, h1], h2⟩
    | non => exact ⟨.none, rfl, rfl, by simp [PyData.depth], rfl, rfl, by simp [PyData.weight]⟩
    | _ => unfold Fl at h; exact h.elim
  | b :: bs, d, h => by
    cases d with
    | int i =>
      have hi : i.natAbs < 2 ^ 120 := by unfold Fl at h; exact h
      obtain ⟨h1, h2, h3⟩ := int_fl hi
      exact ⟨.int i, rfl, by simp [PyData.showable, h3], by simp [PyData.depth], rfl, by simp [PyData.leavesShort, h1], Nat.le_trans h2 (by unfold Wt; omega)⟩
    | non => exact ⟨.none, rfl, rfl, by simp [PyData.depth], rfl, rfl, by simp [PyData.weight]⟩
    | tup xs =>
      have hh : xs.length ≤ b ∧ ∀ x ∈ xs, Fl bs x := by unfold Fl at h; exact h
      obtain ⟨ps, e, a1, a2, a3, a4, a5⟩ := fl_pys (fl_py bs) xs hh.2
      have hw : xs.length * (Wt bs + 1) ≤ b * (Wt bs + 1) := Nat.mul_le_mul_right _ hh.1
      refine ⟨.tuple ps, by simp [toPy, e], ?_, ?_, ?_, ?_, ?_⟩
      · simp [PyData.showable, a1]
      · simp only [PyData.depth, List.length_cons]; omega
      · simp [PyData.canLay0, a3]
      · simp [PyData.leavesShort, a4]
      · simp only [PyData.weight, Wt]; omega
    | lst xs =>
      have hh : xs.length ≤ b ∧ ∀ x ∈ xs, Fl bs x := by unfold Fl at h; exact h
      obtain ⟨ps, e, a1, a2, a3, a4, a5⟩ := fl_pys (fl_py bs) xs hh.2
      have hw : xs.length * (Wt bs + 1) ≤ b * (Wt bs + 1) := Nat.mul_le_mul_right _ hh.1
      refine ⟨.list ps, by simp [toPy, e], ?_, ?_, ?_, ?_, ?_⟩
      · simp [PyData.showable, a1]
      · simp only [PyData.depth, List.length_cons]; omega
      · simp [PyData.canLay0, a3]
      · simp [PyData.leavesShort, a4]
      · simp only [PyData.weight, Wt]; omega
    | _ => unfold Fl at h; exact h.elim
theorem repr_fl {bs : List Nat} {d : D} (h : Fl bs d) (h1 : bs.length ≤ 40 := by decide) (h2 : Wt bs ≤ 390000 := by decide) : ∃ x, reprD d = some x := by
  obtain ⟨p, e, a1, a2, a3, a4, a5⟩ := fl_py bs d h
  refine ⟨p.shown, ?_⟩
  have l := PyData.shown_le 40 (by decide) p a4
  have z : szOk p.shown.length = true := decide_eq_true (by
    have : sizeLine = 16777216 := by decide
    omega)
  have d1 : p.depth ≤ 40 := by omega
  have d2 : p.depth ≤ 64 := by omega
  unfold reprD SeqAt.shaped
  rw [e]
  simp [a1, d1, d2, z, a3]
/-- shape alone: ints, None, tuples, lists, so deep -/
def Sp : Nat → D → Prop
  | _, .int _ => True
  | _, .non => True
  | n + 1, .tup xs => ∀ x ∈ xs, Sp n x
  | n + 1, .lst xs => ∀ x ∈ xs, Sp n x
  | _, _ => False
theorem sp_pys {n : Nat} (h : ∀ d, Sp n d → ∃ p, toPy d = some p ∧ p.depth ≤ n ∧ p.canLay0 = true) : ∀ xs : List D, (∀ x ∈ xs, Sp n x) → ∃ ps, toPys xs = some ps ∧ PyData.depthAll ps ≤ n ∧ PyData.canLayAll0 ps = true
  | [], _ => ⟨[], rfl, Nat.zero_le _, rfl⟩
  | x :: xs, hx => by
    obtain ⟨p, e, a2, a3⟩ := h x (hx x List.mem_cons_self)
    obtain ⟨ps, es, b2, b3⟩ := sp_pys h xs fun y hy => hx y (List.mem_cons_of_mem _ hy)
    exact ⟨p :: ps, by simp [toPys, e, es], by simp only [PyData.depthAll]; omega, by simp [PyData.canLayAll0, a3, b3]⟩
theorem sp_py : ∀ (n : Nat) (d : D), Sp n d → ∃ p, toPy d = some p ∧ p.depth ≤ n ∧ p.canLay0 = true
  | 0, d, h => by
    cases d with
    | int i => exact ⟨.int i, rfl, by simp [PyData.depth], rfl⟩
    | non => exact ⟨.none, rfl, by simp [PyData.depth], rfl⟩
    | _ => unfold Sp at h; exact h.elim
  | n + 1, d, h => by
    cases d with
    | int i => exact ⟨.int i, rfl, by simp [PyData.depth], rfl⟩
    | non => exact ⟨.none, rfl, by simp [PyData.depth], rfl⟩
    | tup xs =>
      have hh : ∀ x ∈ xs, Sp n x := by unfold Sp at h; exact h
      obtain ⟨ps, e, a2, a3⟩ := sp_pys (sp_py n) xs hh
      exact ⟨.tuple ps, by simp [toPy, e], by simp only [PyData.depth]; omega, by simp [PyData.canLay0, a3]⟩
    | lst xs =>
      have hh : ∀ x ∈ xs, Sp n x := by unfold Sp at h; exact h
      obtain ⟨ps, e, a2, a3⟩ := sp_pys (sp_py n) xs hh
      exact ⟨.list ps, by simp [toPy, e], by simp only [PyData.depth]; omega, by simp [PyData.canLay0, a3]⟩
    | _ => unfold Sp at h; exact h.elim
theorem eqv_sp : ∀ (n n' : Nat) (d e : D), Sp n d → Sp n' e → ∀ p q, toPy d = some p → toPy e = some q → (PyData.eqv p q = true ↔ d = e) := by
  have lists : ∀ (n n' : Nat), (∀ (d e : D), Sp n d → Sp n' e → ∀ p q, toPy d = some p → toPy e = some q → (PyData.eqv p q = true ↔ d = e)) → ∀ (xs ys : List D), (∀ x ∈ xs, Sp n x) → (∀ y ∈ ys, Sp n' y) → ∀ ps qs, toPys xs = some ps → toPys ys = some qs → (PyData.eqvAll ps qs = true ↔ xs = ys) := by
    intro n n' ih xs
    induction xs with
    | nil =>
      intro ys _ hy ps qs e1 e2
      cases e1
      cases ys with
      | nil => cases e2; simp [PyData.eqvAll]
      | cons y ys =>
        obtain ⟨q, eq, e2⟩ := Option.bind_eq_some_iff.mp e2
        obtain ⟨r, er, rfl⟩ := Option.map_eq_some_iff.mp e2
        simp [PyData.eqvAll]
    | cons x xs ihx =>
      intro ys hx hy ps qs e1 e2
      obtain ⟨p, ep, e1⟩ := Option.bind_eq_some_iff.mp e1
      obtain ⟨r, er, rfl⟩ := Option.map_eq_some_iff.mp e1
      cases ys with
      | nil => cases e2; simp [PyData.eqvAll]
      | cons y ys =>
        obtain ⟨q, eq, e2⟩ := Option.bind_eq_some_iff.mp e2
        obtain ⟨r', er', rfl⟩ := Option.map_eq_some_iff.mp e2
        have a := ih x y (hx x List.mem_cons_self) (hy y List.mem_cons_self) p q ep eq
        have b := ihx ys (fun z hz => hx z (List.mem_cons_of_mem _ hz)) (fun z hz => hy z (List.mem_cons_of_mem _ hz)) r r' er er'
        simp [PyData.eqvAll, a, b]
  intro n
  induction n with
  | zero =>
    intro n' d e hd he p q ep eq
    cases d <;> (try (unfold Sp at hd; exact hd.elim)) <;> cases e <;> (try (cases n' <;> (unfold Sp at he; exact he.elim))) <;> cases ep <;> (first | (cases eq; simp [PyData.eqv]; done) | (obtain ⟨r, er, rfl⟩ := Option.map_eq_some_iff.mp eq; simp [PyData.eqv]))
  | succ n ih =>
    intro n' d e hd he p q ep eq
    cases d with
    | int i => cases e <;> (try (cases n' <;> (unfold Sp at he; exact he.elim))) <;> cases ep <;> (first | (cases eq; simp [PyData.eqv]; done) | (obtain ⟨r, er, rfl⟩ := Option.map_eq_some_iff.mp eq; simp [PyData.eqv]))
    | non => cases e <;> (try (cases n' <;> (unfold Sp at he; exact he.elim))) <;> cases ep <;> (first | (cases eq; simp [PyData.eqv]; done) | (obtain ⟨r, er, rfl⟩ := Option.map_eq_some_iff.mp eq; simp [PyData.eqv]))
    | tup xs =>
      obtain ⟨r, er, rfl⟩ := Option.map_eq_some_iff.mp ep
      cases e with
      | int i => cases eq; simp [PyData.eqv]
      | non => cases eq; simp [PyData.eqv]
      | lst ys => obtain ⟨r', er', rfl⟩ := Option.map_eq_some_iff.mp eq; simp [PyData.eqv]
      | tup ys =>
        obtain ⟨r', er', rfl⟩ := Option.map_eq_some_iff.mp eq
        cases n' with
        | zero => unfold Sp at he; exact he.elim
        | succ n' =>
          have h1 : ∀ x ∈ xs, Sp n x := by unfold Sp at hd; exact hd
          have h2 : ∀ x ∈ ys, Sp n' x := by unfold Sp at he; exact he
          have := lists n n' (ih n') xs ys h1 h2 r r' er er'
          simp [PyData.eqv, this]
      | _ => cases n' <;> (unfold Sp at he; exact he.elim)
    | lst xs =>
      obtain ⟨r, er, rfl⟩ := Option.map_eq_some_iff.mp ep
      cases e with
      | int i => cases eq; simp [PyData.eqv]
      | non => cases eq; simp [PyData.eqv]
      | tup ys => obtain ⟨r', er', rfl⟩ := Option.map_eq_some_iff.mp eq; simp [PyData.eqv]
      | lst ys =>
        obtain ⟨r', er', rfl⟩ := Option.map_eq_some_iff.mp eq
        cases n' with
        | zero => unfold Sp at he; exact he.elim
        | succ n' =>
          have h1 : ∀ x ∈ xs, Sp n x := by unfold Sp at hd; exact hd
          have h2 : ∀ x ∈ ys, Sp n' x := by unfold Sp at he; exact he
          have := lists n n' (ih n') xs ys h1 h2 r r' er er'
          simp [PyData.eqv, this]
      | _ => cases n' <;> (unfold Sp at he; exact he.elim)
    | _ => unfold Sp at hd; exact hd.elim
/-- equality of plain data -/
theorem eq_sp {n n' : Nat} {d e : D} (hd : Sp n d) (he : Sp n' e) (h1 : n ≤ 64 := by decide) (h2 : n' ≤ 64 := by decide) : ∃ b : Bool, eqD d e = some b ∧ (b = true ↔ d = e) := by
  obtain ⟨p, ep, a2, a3⟩ := sp_py n d hd
  obtain ⟨q, eq, b2, b3⟩ := sp_py n' e he
  refine ⟨PyData.eqv p q, ?_, eqv_sp n n' d e hd he p q ep eq⟩
  unfold eqD SeqAt.shaped
  rw [ep, eq]
  have c1 : p.depth ≤ 64 := by omega
  have c2 : q.depth ≤ 64 := by omega
  simp [a3, b3, c1, c2]
end EV

set_option Elab.async false
set_option linter.all false
set_option maxRecDepth 100000
namespace POLY
/-! ### words: the ring -/
def one0 : Nat → Rat := fun k => if k = 0 then 1 else 0
theorem act_one : ∀ (q : List Rat) (n : Nat), act q one0 n = cf q n
  | [], n => rfl
  | a :: q, n => by
    rw [act_cons]
    cases n with
    | zero =>
      show a * 1 + 0 = a
      rw [Rat.mul_one, Rat.add_zero]
    | succ k =>
      show a * 0 + act q one0 k = cf q k
      rw [act_one q k, Rat.mul_zero, Rat.zero_add]
theorem act_comm : ∀ (p q : List Rat) (n : Nat), act p (cf q) n = act q (cf p) n
  | [], q, n => by
    show (0 : Rat) = _
    have e : cf [] = fun _ => 0 := funext fun n => rfl
    rw [e, act_zero]
  | a :: p, q, n => by
    rw [act_cons]
    have e : cf (a :: p) = fun k => a * one0 k + sh (cf p) k := by
      funext k
      cases k with
      | zero =>
        show a = a * 1 + 0
        rw [Rat.mul_one, Rat.add_zero]
      | succ k =>
        show cf p k = a * 0 + cf p k
        rw [Rat.mul_zero, Rat.zero_add]
    rw [e, act_add, act_scale, act_one, act_sh]
    congr 1
    cases n with
    | zero => rfl
    | succ k => exact act_comm p q k
theorem mulW_comm (p q : List Rat) : mulW p q = mulW q p := trim_eq (trim_cut _) (trim_cut _) fun n => by rw [cf_mulW, cf_mulW, act_comm]
theorem cf_mulW' (p q : List Rat) : cf (mulW p q) = act p (cf q) := funext (cf_mulW p q)
theorem mulW_assoc (p q r : List Rat) : mulW (mulW p q) r = mulW p (mulW q r) := trim_eq (trim_cut _) (trim_cut _) fun n => by rw [cf_mulW, act_mulW, cf_mulW, cf_mulW']
def scW (a : Rat) (p : List Rat) : List Rat := cut (p.map (a * ·))
theorem cf_scW (a : Rat) (p : List Rat) (n : Nat) : cf (scW a p) n = a * cf p n := by rw [scW, cf_cut, cf_map]
def subW (p q : List Rat) : List Rat := addW p (scW (-1) q)
theorem cf_subW (p q : List Rat) (n : Nat) : cf (subW p q) n = cf p n - cf q n := by
  rw [subW, cf_addW, cf_scW, Rat.neg_mul, Rat.one_mul, Rat.sub_eq_add_neg]
theorem tr_add (p q : List Rat) : trim (addW p q) := trim_cut _
theorem tr_mul (p q : List Rat) : trim (mulW p q) := trim_cut _
theorem tr_sc (a : Rat) (q : List Rat) : trim (scW a q) := trim_cut _
theorem tr_sub (p q : List Rat) : trim (subW p q) := trim_cut _
theorem act_subW (p q : List Rat) (g : Nat → Rat) (n : Nat) : act (subW p q) g n = act p g n - act q g n := by
  rw [subW, act_addW, scW, act_cut, act_map, Rat.neg_mul, Rat.one_mul, Rat.sub_eq_add_neg]
theorem mulW_addW (p q r : List Rat) : mulW p (addW q r) = addW (mulW p q) (mulW p r) := trim_eq (tr_mul _ _) (tr_add _ _) fun n => by
  have e : cf (addW q r) = fun k => cf q k + cf r k := funext (cf_addW q r)
  rw [cf_mulW, e, act_add, cf_addW, cf_mulW, cf_mulW]
theorem mulW_scW (a : Rat) (p q : List Rat) : mulW p (scW a q) = scW a (mulW p q) := trim_eq (tr_mul _ _) (tr_sc _ _) fun n => by
  have e : cf (scW a q) = fun k => a * cf q k := funext (cf_scW a q)
  rw [cf_mulW, e, act_scale, cf_scW, cf_mulW]
theorem mulW_subW (p q r : List Rat) : mulW p (subW q r) = subW (mulW p q) (mulW p r) := by rw [subW, mulW_addW, mulW_scW, subW]
theorem addW_mulW (p q r : List Rat) : mulW (addW p q) r = addW (mulW p r) (mulW q r) := by rw [mulW_comm, mulW_addW, mulW_comm r p, mulW_comm r q]
theorem subW_mulW (p q r : List Rat) : mulW (subW p q) r = subW (mulW p r) (mulW q r) := by rw [mulW_comm, mulW_subW, mulW_comm r p, mulW_comm r q]
theorem scW_mulW (a : Rat) (p q : List Rat) : mulW (scW a p) q = scW a (mulW p q) := by rw [mulW_comm, mulW_scW, mulW_comm]
theorem addW_comm (p q : List Rat) : addW p q = addW q p := trim_eq (tr_add _ _) (tr_add _ _) fun n => by rw [cf_addW, cf_addW, Rat.add_comm]
theorem addW_assoc (p q r : List Rat) : addW (addW p q) r = addW p (addW q r) := trim_eq (tr_add _ _) (tr_add _ _) fun n => by rw [cf_addW, cf_addW, cf_addW, cf_addW, Rat.add_assoc]
theorem scW_addW (a : Rat) (p q : List Rat) : scW a (addW p q) = addW (scW a p) (scW a q) := trim_eq (tr_sc _ _) (tr_add _ _) fun n => by rw [cf_scW, cf_addW, cf_addW, cf_scW, cf_scW, Rat.mul_add]
theorem mulW_one {p : List Rat} (h : trim p) : mulW [1] p = p := trim_eq (tr_mul _ _) h fun n => by
  rw [cf_mulW, act_cons, Rat.one_mul]
  have : sh (act [] (cf p)) n = 0 := by cases n <;> rfl
  rw [this, Rat.add_zero]
theorem mulW_one' {p : List Rat} (h : trim p) : mulW p [1] = p := by rw [mulW_comm, mulW_one h]
theorem add_sub_cancel {p q : List Rat} (hp : trim p) : addW (subW p q) q = p := trim_eq (tr_add _ _) hp fun n => by rw [cf_addW, cf_subW, Rat.sub_add_cancel]
/-! ### degrees -/
theorem cf_ge {p : List Rat} {n : Nat} (h : p.length ≤ n) : cf p n = 0 := by
  unfold cf
  rw [List.getD_eq_getElem?_getD, List.getElem?_eq_none h]
  rfl
def lc (p : List Rat) : Rat := cf p (p.length - 1)
theorem lc_ne {p : List Rat} (h : trim p) (hp : p ≠ []) : lc p ≠ 0 := by
  unfold lc
  rw [cf_last hp]
  exact h hp
theorem lc_last {p : List Rat} (hp : p ≠ []) : lc p = p.getLast hp := cf_last hp
theorem len_le {p : List Rat} {n : Nat} (h : trim p) (hz : ∀ m, n ≤ m → cf p m = 0) : p.length ≤ n := by
  by_cases hp : p = []
  · subst hp; exact Nat.zero_le _
  · have := lc_ne h hp
    have hl := List.length_pos_iff.mpr hp
    by_cases c : p.length ≤ n
    · exact c
    · exact absurd (hz (p.length - 1) (by omega)) this
theorem act_top {g : Nat → Rat} {b : Nat} (hg : ∀ m, b ≤ m → g m = 0) : ∀ (p : List Rat) (n : Nat), p.length + b ≤ n + 1 → act p g n = 0
  | [], n, _ => rfl
  | x :: p, n, h => by
    rw [List.length_cons] at h
    rw [act_cons, hg n (by omega), Rat.mul_zero, Rat.zero_add]
    cases n with
    | zero => rfl
    | succ k => exact act_top hg p k (by omega)
theorem act_lead {g : Nat → Rat} {b : Nat} (hb : 1 ≤ b) (hg : ∀ m, b ≤ m → g m = 0) : ∀ (p : List Rat), p ≠ [] → act p g (p.length + b - 2) = lc p * g (b - 1)
  | [], h => absurd rfl h
  | [x], _ => by
    have e : [x].length + b - 2 = b - 1 := by simp; omega
    rw [e, act_cons]
    have z : sh (act [] g) (b - 1) = 0 := by cases b - 1 <;> rfl
    rw [z, Rat.add_zero]
    rfl
  | x :: y :: p, _ => by
    have e : (x :: y :: p).length + b - 2 = (y :: p).length + b - 2 + 1 := by simp; omega
    rw [e, act_cons, hg _ (by simp; omega), Rat.mul_zero, Rat.zero_add]
    exact act_lead hb hg (y :: p) (by simp)
theorem mul_ne {p q : List Rat} (hp : trim p) (hq : trim q) (p0 : p ≠ []) (q0 : q ≠ []) : (mulW p q).length = p.length + q.length - 1 ∧ lc (mulW p q) = lc p * lc q ∧ mulW p q ≠ [] := by
  have lp := List.length_pos_iff.mpr p0
  have lq := List.length_pos_iff.mpr q0
  have hg : ∀ m, q.length ≤ m → cf q m = 0 := fun m h => cf_ge h
  have top : cf (mulW p q) (p.length + q.length - 2) = lc p * lc q := by
    rw [cf_mulW]
    exact act_lead lq hg p p0
  have hne : lc p * lc q ≠ 0 := fun z => (Rat.mul_eq_zero.mp z).elim (lc_ne hp p0) (lc_ne hq q0)
  have h1 : (mulW p q).length ≤ p.length + q.length - 1 := len_le (tr_mul _ _) fun m hm => by
    rw [cf_mulW]
    exact act_top hg p m (by omega)
  have h2 : ¬ (mulW p q).length ≤ p.length + q.length - 2 := fun h => by
    rw [cf_ge h] at top
    exact hne top.symm
  have h3 : (mulW p q).length = p.length + q.length - 1 := by omega
  refine ⟨h3, ?_, fun e => ?_⟩
  · unfold lc at *
    rw [h3]
    have : p.length + q.length - 1 - 1 = p.length + q.length - 2 := by omega
    rw [this]
    exact top
  · rw [e] at h3
    simp at h3
    omega
theorem mul_eq_nil {p q : List Rat} (hp : trim p) (hq : trim q) (h : mulW p q = []) : p = [] ∨ q = [] := by
  by_cases p0 : p = []
  · exact .inl p0
  · by_cases q0 : q = []
    · exact .inr q0
    · exact absurd h (mul_ne hp hq p0 q0).2.2
/-! ### division -/
def mono (c : Rat) (d : Nat) : List Rat := List.replicate d 0 ++ [c]
theorem act_mono (c : Rat) (g : Nat → Rat) : ∀ (d n : Nat), act (mono c d) g n = late d (fun k => c * g k) n
  | 0, n => by
    show act [c] g n = _
    rw [act_cons, late_zero]
    have : sh (act [] g) n = 0 := by cases n <;> rfl
    rw [this, Rat.add_zero]
  | d + 1, n => by
    show act (0 :: mono c d) g n = _
    rw [act_late]
    cases n with
    | zero => simp [sh, late]
    | succ k =>
      show act (mono c d) g k = _
      rw [act_mono c g d k]
      unfold late
      by_cases h : k < d
      · rw [if_pos h, if_pos (by omega)]
      · rw [if_neg h, if_neg (by omega)]
        have : k + 1 - (d + 1) = k - d := by omega
        rw [this]
theorem trim_mono {c : Rat} (hc : c ≠ 0) (d : Nat) : trim (mono c d) := trim_late d (by simp) fun _ => by
  rw [List.getLast_singleton]
  exact hc
/-- the next part of a quotient, and what it leaves -/
def prt (y r : List Rat) : List Rat := mono (lc r / lc y) (r.length - y.length)
def dst (y r : List Rat) : List Rat := subW r (mulW (prt y r) y)
theorem cf_dst (y r : List Rat) (n : Nat) : cf (dst y r) n = cf r n - late (r.length - y.length) (fun k => lc r / lc y * cf y k) n := by
  rw [dst, cf_subW, cf_mulW, prt, act_mono]
theorem len_dst {y r : List Rat} (hy : trim y) (y0 : y ≠ []) (h : y.length ≤ r.length) : (dst y r).length < r.length := by
  have ly := List.length_pos_iff.mpr y0
  have := len_le (p := dst y r) (n := r.length - 1) (tr_sub _ _) fun m hm => by
    rw [cf_dst]
    unfold late
    rw [if_neg (by omega)]
    by_cases e : m = r.length - 1
    · subst e
      have e2 : r.length - 1 - (r.length - y.length) = y.length - 1 := by omega
      rw [e2]
      show lc r - lc r / lc y * lc y = 0
      rw [Rat.div_mul_cancel (lc_ne hy y0), Rat.sub_self]
    · rw [cf_ge (show r.length ≤ m by omega)]
      show 0 - lc r / lc y * cf y (m - (r.length - y.length)) = 0
      rw [cf_ge (show y.length ≤ m - (r.length - y.length) by omega), Rat.mul_zero, Rat.sub_self]
  omega
def dvl (y : List Rat) : Nat → List Rat → List Rat → List Rat × List Rat
  | 0, t, r => (t, r)
  | k + 1, t, r => if r.length < y.length then (t, r) else dvl y k (addW t (prt y r)) (dst y r)
def divW (x y : List Rat) : List Rat × List Rat := dvl y (x.length + 1) [] x
theorem dvl_spec {y : List Rat} (hy : trim y) (y0 : y ≠ []) : ∀ (k : Nat) (t r : List Rat), trim t → trim r → r.length < k → trim (dvl y k t r).1 ∧ trim (dvl y k t r).2 ∧ (dvl y k t r).2.length < y.length ∧ addW (mulW (dvl y k t r).1 y) (dvl y k t r).2 = addW (mulW t y) r
  | 0, t, r, _, _, h => by omega
  | k + 1, t, r, ht, hr, h => by
    unfold dvl
    split
    · rename_i hl
      exact ⟨ht, hr, hl, rfl⟩
    · rename_i hl
      have hd := len_dst hy y0 (Nat.le_of_not_lt hl)
      obtain ⟨a, b, c, d⟩ := dvl_spec hy y0 k (addW t (prt y r)) (dst y r) (tr_add _ _) (tr_sub _ _) (by omega)
      refine ⟨a, b, c, ?_⟩
      rw [d, addW_mulW, addW_assoc]
      congr 1
      rw [addW_comm]
      exact add_sub_cancel hr
theorem div_spec {x y : List Rat} (hx : trim x) (hy : trim y) (y0 : y ≠ []) : trim (divW x y).1 ∧ trim (divW x y).2 ∧ (divW x y).2.length < y.length ∧ addW (mulW (divW x y).1 y) (divW x y).2 = x := by
  obtain ⟨a, b, c, d⟩ := dvl_spec hy y0 (x.length + 1) [] x trim_nil hx (by omega)
  refine ⟨a, b, c, ?_⟩
  unfold divW
  rw [d, mulW_nil]
  exact addW_nil hx
theorem sub_nil {p : List Rat} (h : trim p) : subW p [] = p := trim_eq (tr_sub _ _) h fun n => by rw [cf_subW, cf_nil, Rat.sub_eq_add_neg, Rat.neg_zero, Rat.add_zero]
theorem len_sub_lt {p q : List Rat} {n : Nat} (hp : p.length ≤ n) (hq : q.length ≤ n) : (subW p q).length ≤ n := len_le (tr_sub _ _) fun m hm => by
  rw [cf_subW, cf_ge (Nat.le_trans hp hm), cf_ge (Nat.le_trans hq hm), Rat.sub_self]
/-- one quotient, one rest -/
theorem div_unique {y t r t' r' : List Rat} (hy : trim y) (y0 : y ≠ []) (ht : trim t) (hr : trim r) (ht' : trim t') (hr' : trim r') (h1 : r.length < y.length) (h2 : r'.length < y.length) (e : addW (mulW t y) r = addW (mulW t' y) r') : t = t' ∧ r = r' := by
  have e2 : mulW (subW t t') y = subW r' r := trim_eq (tr_mul _ _) (tr_sub _ _) fun n => by
    rw [cf_subW, subW_mulW, cf_subW]
    have h : cf (addW (mulW t y) r) n = cf (addW (mulW t' y) r') n := by rw [e]
    rw [cf_addW, cf_addW] at h
    grind
  have hl : (subW r' r).length ≤ y.length - 1 := len_sub_lt (by omega) (by omega)
  by_cases z : subW t t' = []
  · have et : t = t' := trim_eq ht ht' fun n => by
      have h : cf (subW t t') n = 0 := by rw [z]; rfl
      rw [cf_subW] at h
      grind
    refine ⟨et, ?_⟩
    subst et
    refine trim_eq hr hr' fun n => ?_
    have h : cf (addW (mulW t y) r) n = cf (addW (mulW t y) r') n := by rw [e]
    rw [cf_addW, cf_addW] at h
    grind
  · have := (mul_ne (tr_sub _ _) hy z y0).1
    rw [e2] at this
    have lz := List.length_pos_iff.mpr z
    have ly := List.length_pos_iff.mpr y0
    omega
theorem div_exact {q y : List Rat} (hq : trim q) (hy : trim y) (y0 : y ≠ []) : divW (mulW q y) y = (q, []) := by
  obtain ⟨a, b, c, d⟩ := div_spec (tr_mul q y) hy y0
  have ly := List.length_pos_iff.mpr y0
  obtain ⟨e1, e2⟩ := div_unique hy y0 a b hq trim_nil c ly (d.trans (addW_nil' (tr_mul q y)).symm)
  exact Prod.ext e1 e2
end POLY
namespace POLY
/-! ### what divides what -/
def Dv (d a : List Rat) : Prop := ∃ q, trim q ∧ a = mulW q d
theorem Dv.add {d a b : List Rat} (ha : Dv d a) (hb : Dv d b) : Dv d (addW a b) := by
  obtain ⟨q, hq, rfl⟩ := ha
  obtain ⟨q', hq', rfl⟩ := hb
  exact ⟨addW q q', tr_add _ _, (addW_mulW _ _ _).symm⟩
theorem Dv.sub {d a b : List Rat} (ha : Dv d a) (hb : Dv d b) : Dv d (subW a b) := by
  obtain ⟨q, hq, rfl⟩ := ha
  obtain ⟨q', hq', rfl⟩ := hb
  exact ⟨subW q q', tr_sub _ _, (subW_mulW _ _ _).symm⟩
theorem Dv.mul {d a : List Rat} (t : List Rat) (ha : Dv d a) : Dv d (mulW t a) := by
  obtain ⟨q, hq, rfl⟩ := ha
  exact ⟨mulW t q, tr_mul _ _, (mulW_assoc _ _ _).symm⟩
theorem Dv.nil (d : List Rat) : Dv d [] := ⟨[], trim_nil, rfl⟩
theorem Dv.refl {d : List Rat} (h : trim d) : Dv d d := ⟨[1], fun _ => by rw [List.getLast_singleton]; decide, (mulW_one h).symm⟩
theorem Dv.trans {a b c : List Rat} (h : Dv a b) (h' : Dv b c) : Dv a c := by
  obtain ⟨q, hq, rfl⟩ := h
  obtain ⟨q', hq', rfl⟩ := h'
  exact ⟨mulW q' q, tr_mul _ _, (mulW_assoc _ _ _).symm⟩
theorem Dv.of_nil {a : List Rat} (h : Dv [] a) : a = [] := by
  obtain ⟨q, hq, rfl⟩ := h
  exact mulW_nil' q
structure Gc (x y g : List Rat) : Prop where
  l : Dv g x
  r : Dv g y
  u : ∀ d, Dv d x → Dv d y → Dv d g
/-- the last rest of dividing one by the other, with words that make it -/
def euc : Nat → List Rat → List Rat → List Rat → List Rat → List Rat → List Rat → List Rat × List Rat × List Rat
  | 0, x, _, f0, f1, _, _ => (x, f0, f1)
  | k + 1, x, y, f0, f1, s0, s1 => if y = [] then (x, f0, f1) else euc k y (divW x y).2 s0 s1 (subW f0 (mulW (divW x y).1 s0)) (subW f1 (mulW (divW x y).1 s1))
theorem euc_gc : ∀ (k : Nat) (x y f0 f1 s0 s1 : List Rat), trim x → trim y → y.length < k → trim (euc k x y f0 f1 s0 s1).1 ∧ Gc x y (euc k x y f0 f1 s0 s1).1
  | 0, x, y, _, _, _, _, _, _, h => by omega
  | k + 1, x, y, f0, f1, s0, s1, hx, hy, h => by
    unfold euc
    split
    · rename_i y0
      subst y0
      exact ⟨hx, .refl hx, .nil x, fun d h1 _ => h1⟩
    · rename_i y0
      obtain ⟨a, b, c, e⟩ := div_spec hx hy y0
      obtain ⟨h1, h2⟩ := euc_gc k y (divW x y).2 s0 s1 (subW f0 (mulW (divW x y).1 s0)) (subW f1 (mulW (divW x y).1 s1)) hy b (by omega)
      refine ⟨h1, ?_, h2.l, fun d d1 d2 => h2.u d d2 ?_⟩
      · have := (h2.l.mul (divW x y).1).add h2.r
        rw [e] at this
        exact this
      · have er : (divW x y).2 = subW x (mulW (divW x y).1 y) := trim_eq b (tr_sub _ _) fun n => by
          have h : cf (addW (mulW (divW x y).1 y) (divW x y).2) n = cf x n := by rw [e]
          rw [cf_addW] at h
          rw [cf_subW]
          grind
        rw [er]
        exact d1.sub (d2.mul _)
theorem lin_sub {f0 f1 s0 s1 t A B : List Rat} : addW (mulW (subW f0 (mulW t s0)) A) (mulW (subW f1 (mulW t s1)) B) = subW (addW (mulW f0 A) (mulW f1 B)) (mulW t (addW (mulW s0 A) (mulW s1 B))) := trim_eq (tr_add _ _) (tr_sub _ _) fun n => by
  rw [cf_addW, cf_subW, cf_addW, subW_mulW, subW_mulW, cf_subW, cf_subW, mulW_addW, cf_addW, mulW_assoc, mulW_assoc]
  grind
theorem euc_lin {A B : List Rat} : ∀ (k : Nat) (x y f0 f1 s0 s1 : List Rat), trim x → trim y → y.length < k → addW (mulW f0 A) (mulW f1 B) = x → addW (mulW s0 A) (mulW s1 B) = y →
    addW (mulW (euc k x y f0 f1 s0 s1).2.1 A) (mulW (euc k x y f0 f1 s0 s1).2.2 B) = (euc k x y f0 f1 s0 s1).1
  | 0, x, y, _, _, _, _, _, _, h, _, _ => by omega
  | k + 1, x, y, f0, f1, s0, s1, hx, hy, h, e1, e2 => by
    unfold euc
    split
    · exact e1
    · rename_i y0
      obtain ⟨a, b, c, e⟩ := div_spec hx hy y0
      refine euc_lin k y (divW x y).2 s0 s1 _ _ hy b (by omega) e2 ?_
      rw [lin_sub, e1, e2]
      refine trim_eq (tr_sub _ _) b fun n => ?_
      have h : cf (addW (mulW (divW x y).1 y) (divW x y).2) n = cf x n := by rw [e]
      rw [cf_addW] at h
      rw [cf_subW]
      grind
theorem div_scale {s x y : List Rat} (hs : trim s) (s0 : s ≠ []) (hx : trim x) (hy : trim y) (y0 : y ≠ []) : divW (mulW s x) (mulW s y) = ((divW x y).1, mulW s (divW x y).2) := by
  have hsy := mul_ne hs hy s0 y0
  obtain ⟨a, b, c, d⟩ := div_spec (tr_mul s x) (tr_mul s y) hsy.2.2
  obtain ⟨a', b', c', d'⟩ := div_spec hx hy y0
  have ls := List.length_pos_iff.mpr s0
  have ly := List.length_pos_iff.mpr y0
  have hl : (mulW s (divW x y).2).length < (mulW s y).length := by
    rw [hsy.1]
    by_cases z : (divW x y).2 = []
    · rw [z, mulW_nil']
      simp; omega
    · rw [(mul_ne hs b' s0 z).1]
      omega
  have e : addW (mulW (divW x y).1 (mulW s y)) (mulW s (divW x y).2) = mulW s x := by
    rw [← mulW_assoc, mulW_comm (divW x y).1 s, mulW_assoc, ← mulW_addW, d']
  obtain ⟨e1, e2⟩ := div_unique (tr_mul s y) hsy.2.2 a b a' (tr_mul s (divW x y).2) c hl (d.trans e.symm)
  exact Prod.ext e1 e2
theorem euc_scale {s : List Rat} (hs : trim s) (s0 : s ≠ []) : ∀ (k : Nat) (x y f0 f1 g0 g1 : List Rat), trim x → trim y → euc k (mulW s x) (mulW s y) f0 f1 g0 g1 = (mulW s (euc k x y f0 f1 g0 g1).1, (euc k x y f0 f1 g0 g1).2)
  | 0, x, y, _, _, _, _, _, _ => rfl
  | k + 1, x, y, f0, f1, g0, g1, hx, hy => by
    by_cases y0 : y = []
    · subst y0
      unfold euc
      rw [if_pos (mulW_nil' s), if_pos rfl]
    · have h1 := (mul_ne hs hy s0 y0).2.2
      unfold euc
      rw [if_neg h1, if_neg y0, div_scale hs s0 hx hy y0]
      exact euc_scale hs s0 k y (divW x y).2 g0 g1 _ _ hy (div_spec hx hy y0).2.1
/-- with one as its lead -/
def mon (g : List Rat) : List Rat := scW (1 / lc g) g
theorem mon_nil : mon [] = [] := rfl
theorem inv_ne {a : Rat} (h : a ≠ 0) : 1 / a ≠ 0 := fun z => by
  have := Rat.div_mul_cancel h (a := 1)
  rw [z, Rat.zero_mul] at this
  exact absurd this.symm (by decide)
theorem sc_ne {a : Rat} {p : List Rat} (ha : a ≠ 0) (hp : trim p) : scW a p = p.map (a * ·) := cut_id (trim_map ha hp)
theorem mon_map {g : List Rat} (h : trim g) (g0 : g ≠ []) : mon g = g.map ((1 / lc g) * ·) := sc_ne (inv_ne (lc_ne h g0)) h
theorem mon_len {g : List Rat} (h : trim g) (g0 : g ≠ []) : (mon g).length = g.length := by rw [mon_map h g0, List.length_map]
theorem mon_dv {g : List Rat} (h : trim g) : Dv g (mon g) ∧ Dv (mon g) g := by
  by_cases g0 : g = []
  · subst g0
    exact ⟨.nil _, .nil _⟩
  · have hl := lc_ne h g0
    have t1 : ∀ c : Rat, c ≠ 0 → trim [c] := fun c hc _ => by rw [List.getLast_singleton]; exact hc
    have m1 : ∀ (c : Rat) (p : List Rat), mulW [c] p = scW c p := fun c p => trim_eq (tr_mul _ _) (tr_sc _ _) fun n => by
      rw [cf_mulW, act_cons, cf_scW]
      have : sh (act [] (cf p)) n = 0 := by cases n <;> rfl
      rw [this, Rat.add_zero]
    refine ⟨⟨[1 / lc g], t1 _ (inv_ne hl), (m1 _ _).symm⟩, ⟨[lc g], t1 _ hl, ?_⟩⟩
    rw [m1]
    refine trim_eq h (tr_sc _ _) fun n => ?_
    rw [cf_scW, mon, cf_scW, ← Rat.mul_assoc, Rat.mul_comm (lc g), Rat.div_mul_cancel hl, Rat.one_mul]
theorem mon_lc {g : List Rat} (h : trim g) (g0 : g ≠ []) : lc (mon g) = 1 := by
  have e : lc (mon g) = cf (mon g) (g.length - 1) := by unfold lc; rw [mon_len h g0]
  rw [e, mon, cf_scW]
  exact Rat.div_mul_cancel (lc_ne h g0)
theorem mon_eq {g h : List Rat} (hg : trim g) (hh : trim h) (d1 : Dv g h) (d2 : Dv h g) : mon g = mon h := by
  by_cases g0 : g = []
  · subst g0
    rw [d1.of_nil]
  · obtain ⟨q, hq, e⟩ := d1
    have q0 : q ≠ [] := fun z => by
      subst z
      rw [mulW_nil] at e
      subst e
      exact g0 d2.of_nil
    obtain ⟨q', hq', e'⟩ := d2
    have h0 : h ≠ [] := fun z => by
      subst z
      rw [mulW_nil'] at e'
      exact g0 e'
    have q0' : q' ≠ [] := fun z => by
      subst z
      rw [mulW_nil] at e'
      exact g0 e'
    have l1 := (mul_ne hq hg q0 g0)
    have l2 := (mul_ne hq' hh q0' h0)
    rw [← e] at l1
    rw [← e'] at l2
    have p1 := List.length_pos_iff.mpr q0
    have p2 := List.length_pos_iff.mpr q0'
    have p3 := List.length_pos_iff.mpr g0
    have hl : q.length = 1 := by omega
    obtain ⟨c, rfl⟩ : ∃ c, q = [c] := by
      match q, hl with
      | [c], _ => exact ⟨c, rfl⟩
    have hc : c ≠ 0 := hq q0
    have l3 := l1.2.1
    have ec : lc [c] = c := rfl
    rw [ec] at l3
    refine trim_eq (tr_sc _ _) (tr_sc _ _) fun n => ?_
    show cf (scW _ _) n = cf (scW _ _) n
    rw [cf_scW, cf_scW, l3]
    have eh : cf h n = c * cf g n := by
      rw [e, cf_mulW, act_cons]
      have : sh (act [] (cf g)) n = 0 := by cases n <;> rfl
      rw [this, Rat.add_zero]
    rw [eh]
    have hlg := lc_ne hg g0
    have h3 : c * lc g ≠ 0 := fun z => (Rat.mul_eq_zero.mp z).elim hc hlg
    have e1 := Rat.div_mul_cancel hlg (a := 1)
    have e2 := Rat.div_mul_cancel h3 (a := 1)
    have e3 : 1 / (c * lc g) * c = 1 / lc g := by
      calc 1 / (c * lc g) * c = 1 / (c * lc g) * c * (1 / lc g * lc g) := by rw [e1, Rat.mul_one]
        _ = (1 / (c * lc g) * (c * lc g)) * (1 / lc g) := by grind
        _ = 1 / lc g := by rw [e2, Rat.one_mul]
    rw [← Rat.mul_assoc, e3]
theorem Gc.mon_eq {x y g h : List Rat} (hg : trim g) (hh : trim h) (a : Gc x y g) (b : Gc x y h) : mon g = mon h := POLY.mon_eq hg hh (b.u g a.l a.r) (a.u h b.l b.r)
theorem Gc.symm {x y g : List Rat} (h : Gc x y g) : Gc y x g := ⟨h.r, h.l, fun d a b => h.u d b a⟩
end POLY
namespace POLY
/-! ### words over one denominator -/
structure Cd (k l : Nat) (p : List Rat) : Prop where
  tr : trim p
  ln : p.length ≤ l
  dn : ∃ d : Int, d ≠ 0 ∧ d.natAbs < 2 ^ k ∧ ∀ n, ∃ a : Int, a.natAbs < 2 ^ k ∧ cf p n = (a : Rat) / (d : Rat)
theorem zdiv (a : Rat) : 0 / a = 0 := by rw [Rat.div_def, Rat.zero_mul]
theorem pw {j k : Nat} (h : j ≤ k) : 2 ^ j ≤ 2 ^ k := Nat.pow_le_pow_right (by decide) h
theorem lt2 {a j k : Nat} (h : a < 2 ^ j) (hk : j ≤ k) : a < 2 ^ k := Nat.lt_of_lt_of_le h (pw hk)
theorem Cd.mono {k l k' l' : Nat} {p : List Rat} (h : Cd k l p) (hk : k ≤ k') (hl : l ≤ l') : Cd k' l' p := by
  obtain ⟨d, d0, d1, hd⟩ := h.dn
  refine ⟨h.tr, Nat.le_trans h.ln hl, d, d0, lt2 d1 hk, fun n => ?_⟩
  obtain ⟨a, a1, e⟩ := hd n
  exact ⟨a, lt2 a1 hk, e⟩
theorem castne {d : Int} (h : d ≠ 0) : (d : Rat) ≠ 0 := fun z => h (by exact_mod_cast z)
theorem mulne {a b : Int} (ha : a ≠ 0) (hb : b ≠ 0) : a * b ≠ 0 := Int.mul_ne_zero ha hb
theorem mul_lt2 {a b : Int} {j k : Nat} (ha : a.natAbs < 2 ^ j) (hb : b.natAbs < 2 ^ k) : (a * b).natAbs < 2 ^ (j + k) := by
  rw [Int.natAbs_mul, Nat.pow_add]
  exact Nat.mul_lt_mul'' ha hb
theorem Cd.nil (k l : Nat) (h : 1 ≤ k) : Cd k l [] := ⟨trim_nil, Nat.zero_le _, 1, by decide, Nat.one_lt_two_pow (by omega), fun n => ⟨0, Nat.pow_pos (by decide), by rw [cf_nil]; simp [zdiv]⟩⟩
theorem Cd.add {k l k' l' : Nat} {p q : List Rat} (hp : Cd k l p) (hq : Cd k' l' q) : Cd (k + k' + 1) (max l l') (addW p q) := by
  obtain ⟨d, d0, d1, hd⟩ := hp.dn
  obtain ⟨e, e0, e1, he⟩ := hq.dn
  refine ⟨tr_add _ _, Nat.le_trans (cut_len _) (by rw [addL_len]; have := hp.ln; have := hq.ln; omega), d * e, mulne d0 e0, lt2 (mul_lt2 d1 e1) (by omega), fun n => ?_⟩
  obtain ⟨a, a1, ea⟩ := hd n
  obtain ⟨b, b1, eb⟩ := he n
  refine ⟨a * e + b * d, ?_, ?_⟩
  · have h1 := mul_lt2 a1 e1
    have h2 := mul_lt2 b1 d1
    have h3 := Int.natAbs_add_le (a * e) (b * d)
    rw [Nat.add_comm k' k] at h2
    rw [Nat.pow_succ]
    omega
  · rw [cf_addW, ea, eb]
    have hd := castne d0
    have he := castne e0
    push_cast
    grind
theorem act_cd {g : Nat → Rat} {d e : Int} {k k' : Nat} (d0 : d ≠ 0) (e0 : e ≠ 0) (hg : ∀ n, ∃ b : Int, b.natAbs < 2 ^ k' ∧ g n = (b : Rat) / (e : Rat)) : ∀ (p : List Rat), (∀ n, ∃ a : Int, a.natAbs < 2 ^ k ∧ cf p n = (a : Rat) / (d : Rat)) → ∀ n, ∃ c : Int, c.natAbs ≤ p.length * 2 ^ (k + k') ∧ act p g n = (c : Rat) / ((d * e : Int) : Rat)
  | [], _, n => ⟨0, by simp, by show (0 : Rat) = _; simp [zdiv]⟩
  | x :: p, hp, n => by
    obtain ⟨a, a1, ea⟩ := hp 0
    obtain ⟨b, b1, eb⟩ := hg n
    have ex : x = (a : Rat) / (d : Rat) := ea
    have ih := act_cd d0 e0 hg p (fun n => hp (n + 1))
    obtain ⟨c, c1, ec⟩ : ∃ c : Int, c.natAbs ≤ p.length * 2 ^ (k + k') ∧ sh (act p g) n = (c : Rat) / ((d * e : Int) : Rat) := by
      cases n with
      | zero => exact ⟨0, by simp, by show (0 : Rat) = _; simp [zdiv]⟩
      | succ j => exact ih j
    refine ⟨a * b + c, ?_, ?_⟩
    · have h1 := mul_lt2 a1 b1
      have h3 := Int.natAbs_add_le (a * b) c
      rw [List.length_cons, Nat.add_mul, Nat.one_mul]
      omega
    · rw [act_cons, ec, ex, eb]
      have hd := castne d0
      have he := castne e0
      push_cast
      grind
theorem Cd.mul {k l k' l' : Nat} {p q : List Rat} (hp : Cd k l p) (hq : Cd k' l' q) : Cd (k + k' + l) (l + l') (mulW p q) := by
  obtain ⟨d, d0, d1, hd⟩ := hp.dn
  obtain ⟨e, e0, e1, he⟩ := hq.dn
  have lp := hp.ln
  refine ⟨tr_mul _ _, Nat.le_trans (cut_len _) (Nat.le_trans (mulL_len p q) (by have := hq.ln; omega)), d * e, mulne d0 e0, lt2 (mul_lt2 d1 e1) (by omega), fun n => ?_⟩
  obtain ⟨c, c1, ec⟩ := act_cd d0 e0 he p hd n
  refine ⟨c, Nat.lt_of_le_of_lt c1 ?_, by rw [cf_mulW]; exact ec⟩
  rw [Nat.pow_add 2 (k + k') l, Nat.mul_comm]
  have h1 : p.length < 2 ^ l := Nat.lt_of_le_of_lt lp Nat.lt_two_pow_self
  exact Nat.mul_lt_mul_of_pos_left h1 (Nat.pow_pos (by decide))
/-- a number of so many digits -/
def Nb (j : Nat) (c : Rat) : Prop := ∃ u v : Int, v ≠ 0 ∧ u.natAbs < 2 ^ j ∧ v.natAbs < 2 ^ j ∧ c = (u : Rat) / (v : Rat)
theorem Nb.mono {j k : Nat} {c : Rat} (h : Nb j c) (hk : j ≤ k) : Nb k c := let ⟨u, v, a, b, d, e⟩ := h; ⟨u, v, a, lt2 b hk, lt2 d hk, e⟩
theorem Cd.sc {k l j : Nat} {p : List Rat} {c : Rat} (hp : Cd k l p) (hc : Nb j c) : Cd (k + j) l (scW c p) := by
  obtain ⟨d, d0, d1, hd⟩ := hp.dn
  obtain ⟨u, v, v0, u1, v1, rfl⟩ := hc
  refine ⟨tr_sc _ _, Nat.le_trans (cut_len _) (by rw [List.length_map]; exact hp.ln), d * v, mulne d0 v0, mul_lt2 d1 v1, fun n => ?_⟩
  obtain ⟨a, a1, ea⟩ := hd n
  refine ⟨a * u, mul_lt2 a1 u1, ?_⟩
  rw [cf_scW, ea]
  have hd := castne d0
  have hv := castne v0
  push_cast
  grind
theorem nb_neg1 : Nb 1 (-1) := ⟨-1, 1, by decide, by decide, by decide, by decide +kernel⟩
theorem Cd.sub {k l k' l' : Nat} {p q : List Rat} (hp : Cd k l p) (hq : Cd k' l' q) : Cd (k + k' + 2) (max l l') (subW p q) := (hp.add (hq.sc nb_neg1)).mono (by omega) (Nat.le_refl _)
theorem Cd.lead {k l : Nat} {p : List Rat} (hp : Cd k l p) : Nb k (lc p) := by
  obtain ⟨d, d0, d1, hd⟩ := hp.dn
  obtain ⟨a, a1, ea⟩ := hd (p.length - 1)
  exact ⟨a, d, d0, a1, d1, ea⟩
theorem Nb.div {j k : Nat} {a b : Rat} (ha : Nb j a) (hb : Nb k b) (b0 : b ≠ 0) : Nb (j + k) (a / b) := by
  obtain ⟨u, v, v0, u1, v1, rfl⟩ := ha
  obtain ⟨x, y, y0, x1, y1, rfl⟩ := hb
  have x0 : x ≠ 0 := fun z => b0 (by rw [z]; simp [zdiv])
  refine ⟨u * y, v * x, mulne v0 x0, mul_lt2 u1 y1, mul_lt2 v1 x1, ?_⟩
  have hv := castne v0
  have hy := castne y0
  have hx := castne x0
  push_cast
  grind
theorem Nb.mul {j k : Nat} {a b : Rat} (ha : Nb j a) (hb : Nb k b) : Nb (j + k) (a * b) := by
  obtain ⟨u, v, v0, u1, v1, rfl⟩ := ha
  obtain ⟨x, y, y0, x1, y1, rfl⟩ := hb
  refine ⟨u * x, v * y, mulne v0 y0, mul_lt2 u1 x1, mul_lt2 v1 y1, ?_⟩
  have hv := castne v0
  have hy := castne y0
  push_cast
  grind
theorem nb_one : Nb 1 1 := ⟨1, 1, by decide, by decide, by decide, by decide +kernel⟩
theorem cf_mono (c : Rat) (d n : Nat) : cf (POLY.mono c d) n = if n = d then c else 0 := by
  unfold POLY.mono
  rw [cf_rep]
  unfold late
  by_cases h1 : n < d
  · rw [if_pos h1, if_neg (by omega)]
  · rw [if_neg h1]
    by_cases h2 : n = d
    · subst h2; rw [if_pos rfl, Nat.sub_self]; rfl
    · rw [if_neg h2]
      obtain ⟨j, hj⟩ : ∃ j, n - d = j + 1 := ⟨n - d - 1, by omega⟩
      rw [hj]
      rfl
theorem Cd.mono1 {j : Nat} {c : Rat} (hc : Nb j c) (c0 : c ≠ 0) (d : Nat) : Cd j (d + 1) (POLY.mono c d) := by
  obtain ⟨u, v, v0, u1, v1, rfl⟩ := hc
  refine ⟨trim_mono c0 d, by simp [POLY.mono], v, v0, v1, fun n => ?_⟩
  rw [cf_mono]
  split
  · exact ⟨u, u1, rfl⟩
  · exact ⟨0, Nat.pow_pos (by decide), by simp [zdiv]⟩
theorem Cd.prt {k l k' l' : Nat} {r y : List Rat} (hr : Cd k l r) (hy : Cd k' l' y) (y0 : y ≠ []) (h : y.length ≤ r.length) : Cd (k + k') l (prt y r) := by
  have ly := List.length_pos_iff.mpr y0
  have r0 : r ≠ [] := fun z => by subst z; have h' : y.length ≤ 0 := h; omega
  have h1 := lc_ne hr.tr r0
  have h2 := lc_ne hy.tr y0
  have hne : lc r / lc y ≠ 0 := fun z => by
    have := Rat.div_mul_cancel h2 (a := lc r)
    rw [z, Rat.zero_mul] at this
    exact h1 this.symm
  have := Cd.mono1 (hr.lead.div hy.lead h2) hne (r.length - y.length)
  exact this.mono (Nat.le_refl _) (by have := hr.ln; omega)
theorem Cd.dst {k l k' l' : Nat} {r y : List Rat} (hr : Cd k l r) (hy : Cd k' l' y) (y0 : y ≠ []) (h : y.length ≤ r.length) : Cd (k + k' + 1) l (dst y r) := by
  obtain ⟨d, d0, d1, hd⟩ := hr.dn
  obtain ⟨e, e0, e1, he⟩ := hy.dn
  obtain ⟨A, A1, eA⟩ := hd (r.length - 1)
  obtain ⟨B, B1, eB⟩ := he (y.length - 1)
  have eA : lc r = (A : Rat) / (d : Rat) := eA
  have eB : lc y = (B : Rat) / (e : Rat) := eB
  have h2 := lc_ne hy.tr y0
  have B0 : B ≠ 0 := fun z => h2 (by rw [eB, z]; simp [zdiv])
  refine ⟨tr_sub _ _, Nat.le_trans (Nat.le_of_lt (len_dst hy.tr y0 h)) hr.ln, d * B, mulne d0 B0, lt2 (mul_lt2 d1 B1) (by omega), fun n => ?_⟩
  obtain ⟨a, a1, ea⟩ := hd n
  have hd := castne d0
  have he' := castne e0
  have hB := castne B0
  rw [cf_dst, ea, eA, eB]
  unfold late
  split
  · refine ⟨a * B, lt2 (mul_lt2 a1 B1) (by omega), ?_⟩
    push_cast
    grind
  · obtain ⟨b, b1, eb⟩ := he (n - (r.length - y.length))
    refine ⟨a * B - A * b, ?_, ?_⟩
    · have h1 := mul_lt2 a1 B1
      have h2 := mul_lt2 A1 b1
      rw [Nat.pow_succ]
      omega
    · show _ - (A : Rat) / d / (B / e) * cf y (n - (r.length - y.length)) = _
      rw [eb]
      push_cast
      grind
end POLY
namespace POLY
/-! ### how many digits -/
def Pt : Nat → Nat → Nat → Nat
  | 0, _, _ => 0
  | e + 1, kr, ky => (kr + ky + 1) + Pt e (kr + ky + 1) ky
/-- in the midst of a division -/
structure Bs (y : List Rat) (ky KT KR : Nat) (t r : List Rat) : Prop where
  b : ∃ kt kr e, Cd kt 5 t ∧ Cd kr 5 r ∧ r.length + 1 ≤ y.length + e ∧ kt + Pt e kr ky ≤ KT ∧ kr + e * (ky + 1) ≤ KR
theorem Bs.step {y : List Rat} {ky KT KR : Nat} {t r : List Rat} (hy : Cd ky 5 y) (y0 : y ≠ []) (h : Bs y ky KT KR t r) (hl : y.length ≤ r.length) : Bs y ky KT KR (addW t (prt y r)) (dst y r) := by
  obtain ⟨kt, kr, e, ht, hr, he, h1, h2⟩ := h.b
  obtain ⟨e, rfl⟩ : ∃ j, e = j + 1 := ⟨e - 1, by omega⟩
  refine ⟨kt + (kr + ky) + 1, kr + ky + 1, e, ht.add (hr.prt hy y0 hl), hr.dst hy y0 hl, ?_, ?_, ?_⟩
  · have := len_dst hy.tr y0 hl
    omega
  · unfold Pt at h1
    omega
  · rw [Nat.add_mul, Nat.one_mul] at h2
    omega
theorem Bs.t {y : List Rat} {ky KT KR : Nat} {t r : List Rat} (h : Bs y ky KT KR t r) : Cd KT 5 t := by
  obtain ⟨kt, kr, e, ht, hr, he, h1, h2⟩ := h.b
  exact ht.mono (by omega) (Nat.le_refl _)
theorem Bs.r {y : List Rat} {ky KT KR : Nat} {t r : List Rat} (h : Bs y ky KT KR t r) : Cd KR 5 r := by
  obtain ⟨kt, kr, e, ht, hr, he, h1, h2⟩ := h.b
  exact hr.mono (by omega) (Nat.le_refl _)
theorem Bs.p {y : List Rat} {ky KT KR : Nat} {t r : List Rat} (hy : Cd ky 5 y) (y0 : y ≠ []) (h : Bs y ky KT KR t r) (hl : y.length ≤ r.length) : Cd KR 5 (prt y r) := by
  obtain ⟨kt, kr, e, ht, hr, he, h1, h2⟩ := h.b
  obtain ⟨e, rfl⟩ : ∃ j, e = j + 1 := ⟨e - 1, by omega⟩
  rw [Nat.add_mul, Nat.one_mul] at h2
  exact (hr.prt hy y0 hl).mono (by omega) (Nat.le_refl _)
theorem Bs.init {x y : List Rat} {kx ky : Nat} (hx : Cd kx 5 x) : Bs y ky (1 + Pt (x.length + 1 - y.length) kx ky) (kx + (x.length + 1 - y.length) * (ky + 1)) [] x :=
  ⟨1, kx, x.length + 1 - y.length, Cd.nil 1 5 (by decide), hx, by omega, Nat.le_refl _, Nat.le_refl _⟩
theorem dvl_bs {y : List Rat} {ky KT KR : Nat} (hy : Cd ky 5 y) (y0 : y ≠ []) : ∀ (k : Nat) (t r : List Rat), Bs y ky KT KR t r → Bs y ky KT KR (dvl y k t r).1 (dvl y k t r).2
  | 0, t, r, h => h
  | k + 1, t, r, h => by
    unfold dvl
    split
    · exact h
    · rename_i hl
      exact dvl_bs hy y0 k _ _ (h.step hy y0 (Nat.le_of_not_lt hl))
def Ud : Nat → Nat
  | 0 => 950
  | 1 => 170
  | 2 => 40
  | 3 => 11
  | _ => 3
def Vd : Nat → Nat
  | 0 => 3300
  | 1 => 600
  | 2 => 130
  | 3 => 30
  | _ => 1
def Ld (n : Nat) : Nat := 1 + 5 * (5 - n)
theorem ud_le : ∀ i j : Nat, i ≤ j → Ud j ≤ Ud i := by
  intro i j h
  match i, j with
  | 0, 0 => decide
  | 0, 1 => decide
  | 0, 2 => decide
  | 0, 3 => decide
  | 0, _ + 4 => show 3 ≤ 950; decide
  | 1, 1 => decide
  | 1, 2 => decide
  | 1, 3 => decide
  | 1, _ + 4 => show 3 ≤ 170; decide
  | 2, 2 => decide
  | 2, 3 => decide
  | 2, _ + 4 => show 3 ≤ 40; decide
  | 3, 3 => decide
  | 3, _ + 4 => show 3 ≤ 11; decide
  | _ + 4, _ + 4 => exact Nat.le_refl _
  | _ + 4, 0 => omega
  | _ + 4, 1 => omega
  | _ + 4, 2 => omega
  | _ + 4, 3 => omega
theorem vd_le : ∀ i j : Nat, i ≤ j → Vd j ≤ Vd i := by
  intro i j h
  match i, j with
  | 0, 0 => decide
  | 0, 1 => decide
  | 0, 2 => decide
  | 0, 3 => decide
  | 0, _ + 4 => show 1 ≤ 3300; decide
  | 1, 1 => decide
  | 1, 2 => decide
  | 1, 3 => decide
  | 1, _ + 4 => show 1 ≤ 600; decide
  | 2, 2 => decide
  | 2, 3 => decide
  | 2, _ + 4 => show 1 ≤ 130; decide
  | 3, 3 => decide
  | 3, _ + 4 => show 1 ≤ 30; decide
  | _ + 4, _ + 4 => exact Nat.le_refl _
  | _ + 4, 0 => omega
  | _ + 4, 1 => omega
  | _ + 4, 2 => omega
  | _ + 4, 3 => omega
theorem tab_ok : ∀ a, a < 6 → ∀ b, b < 5 → 1 ≤ b → b ≤ a → Ud a + (a + 1 - b) * (Ud b + 1) ≤ Ud (b - 1) ∧ Vd a + (1 + Pt (a + 1 - b) (Ud a) (Ud b) + Vd b + 5) + 2 ≤ Vd (b - 1) ∧ 1 + Pt (a + 1 - b) (Ud a) (Ud b) ≤ 2600 := by decide +kernel
/-- in the midst of looking for a common word -/
structure Es (x y f0 f1 s0 s1 : List Rat) : Prop where
  lx : x.length ≤ 5
  ly : y.length ≤ 5
  lo : y.length ≤ 4 ∨ x.length < y.length
  cx : Cd (Ud x.length) 5 x
  cy : Cd (Ud y.length) 5 y
  f0 : Cd (Vd x.length) (Ld x.length) f0
  f1 : Cd (Vd x.length) (Ld x.length) f1
  s0 : Cd (Vd y.length) (Ld y.length) s0
  s1 : Cd (Vd y.length) (Ld y.length) s1
theorem div_short {x y : List Rat} (h : x.length < y.length) : divW x y = ([], x) := by
  unfold divW dvl
  rw [if_pos h]
theorem Es.bs {x y f0 f1 s0 s1 : List Rat} (h : Es x y f0 f1 s0 s1) : Bs y (Ud y.length) (1 + Pt (x.length + 1 - y.length) (Ud x.length) (Ud y.length)) (Ud x.length + (x.length + 1 - y.length) * (Ud y.length + 1)) [] x := Bs.init h.cx
/-- within bounds -/
theorem Es.lim {x y f0 f1 s0 s1 : List Rat} (h : Es x y f0 f1 s0 s1) (y0 : y ≠ []) : 1 + Pt (x.length + 1 - y.length) (Ud x.length) (Ud y.length) ≤ 2600 ∧ Ud x.length + (x.length + 1 - y.length) * (Ud y.length + 1) ≤ 950 ∧ Ud y.length ≤ 170 := by
  have ly1 := List.length_pos_iff.mpr y0
  have h1 : Ud y.length ≤ 170 := ud_le 1 y.length ly1
  have h3 : Ud x.length ≤ 950 := ud_le 0 x.length (Nat.zero_le _)
  by_cases c : x.length < y.length
  · have e : x.length + 1 - y.length = 0 := by omega
    rw [e]
    simp [Pt]
    exact ⟨h3, h1⟩
  · have hy4 : y.length < 5 := by have := h.lo; omega
    obtain ⟨t1, t2, t3⟩ := tab_ok x.length (by have := h.lx; omega) y.length hy4 ly1 (by omega)
    exact ⟨t3, Nat.le_trans t1 (ud_le 0 _ (Nat.zero_le _)), h1⟩
theorem Es.step {x y f0 f1 s0 s1 : List Rat} (h : Es x y f0 f1 s0 s1) (y0 : y ≠ []) : Es y (divW x y).2 s0 s1 (subW f0 (mulW (divW x y).1 s0)) (subW f1 (mulW (divW x y).1 s1)) := by
  have ly1 := List.length_pos_iff.mpr y0
  obtain ⟨a, b, c, d⟩ := div_spec h.cx.tr h.cy.tr y0
  by_cases hc : x.length < y.length
  · rw [div_short hc]
    rw [div_short hc] at c
    show Es y x s0 s1 (subW f0 (mulW [] s0)) (subW f1 (mulW [] s1))
    rw [mulW_nil, mulW_nil, sub_nil h.f0.tr, sub_nil h.f1.tr]
    exact ⟨h.ly, h.lx, .inl (by have := h.ly; omega), h.cy, h.cx, h.s0, h.s1, h.f0, h.f1⟩
  · have hy4 : y.length < 5 := by have := h.lo; omega
    obtain ⟨t1, t2, t3⟩ := tab_ok x.length (by have := h.lx; omega) y.length hy4 ly1 (by omega)
    have hb := dvl_bs h.cy y0 (x.length + 1) [] x h.bs
    have hr : Cd (Ud (divW x y).2.length) 5 (divW x y).2 := hb.r.mono (Nat.le_trans t1 (ud_le _ _ (by omega))) (Nat.le_refl _)
    have hv := vd_le (divW x y).2.length (y.length - 1) (by omega)
    have hth : ∀ f s, Cd (Vd x.length) (Ld x.length) f → Cd (Vd y.length) (Ld y.length) s → Cd (Vd (divW x y).2.length) (Ld (divW x y).2.length) (subW f (mulW (divW x y).1 s)) := fun f s hf hs => by
      have := hf.sub (hb.t.mul hs)
      refine this.mono (by omega) ?_
      unfold Ld
      omega
    exact ⟨h.ly, by omega, .inl (by omega), h.cy, hr, h.s0, h.s1, hth f0 s0 h.f0 h.s0, hth f1 s1 h.f1 h.s1⟩
theorem cd_one : Cd 1 1 [1] := ⟨fun _ => by rw [List.getLast_singleton]; decide, Nat.le_refl _, 1, by decide, by decide, fun n => by
  cases n with
  | zero => exact ⟨1, by decide, by decide +kernel⟩
  | succ k => exact ⟨0, by decide, by rw [cf_succ, cf_nil]; exact (zdiv _).symm⟩⟩
theorem Es.init {x y : List Rat} (hx : Cd 3 5 x) (hy : Cd 3 5 y) (ho : y.length ≤ 4 ∨ x.length < y.length) : Es x y [1] [] [] [1] := by
  have u3 : ∀ n, 3 ≤ Ud n := fun n => Nat.le_trans (show 3 ≤ Ud (n + 4) from Nat.le_refl 3) (ud_le n (n + 4) (by omega))
  have v1 : ∀ n, 1 ≤ Vd n := fun n => Nat.le_trans (show 1 ≤ Vd (n + 4) from Nat.le_refl 1) (vd_le n (n + 4) (by omega))
  have l1 : ∀ n, 1 ≤ Ld n := fun n => by unfold Ld; omega
  exact ⟨hx.ln, hy.ln, ho, hx.mono (u3 _) (Nat.le_refl _), hy.mono (u3 _) (Nat.le_refl _), cd_one.mono (v1 _) (l1 _), Cd.nil _ _ (v1 _), Cd.nil _ _ (v1 _), cd_one.mono (v1 _) (l1 _)⟩
theorem euc_es : ∀ (k : Nat) (x y f0 f1 s0 s1 : List Rat), Es x y f0 f1 s0 s1 → y.length < k → ∃ g2 g3, Es (euc k x y f0 f1 s0 s1).1 [] (euc k x y f0 f1 s0 s1).2.1 (euc k x y f0 f1 s0 s1).2.2 g2 g3
  | 0, x, y, _, _, _, _, _, h => by omega
  | k + 1, x, y, f0, f1, s0, s1, h, hk => by
    unfold euc
    split
    · rename_i y0
      subst y0
      exact ⟨s0, s1, h⟩
    · rename_i y0
      have := (div_spec h.cx.tr h.cy.tr y0).2.2.1
      exact euc_es k _ _ _ _ _ _ (h.step y0) (by omega)
end POLY

set_option Elab.async false
set_option linter.all false
set_option maxRecDepth 100000
set_option maxHeartbeats 4000000
namespace K24
open PySem PySem.Spec PyProof.Rows L2 EV
/-! ### the text by places -/
def top (i : Nat) : Stmt := PySem.Challenge.pw_handbetween_k24_whole_common_words.main.body.getD i (.Pass ⟨0, 0, 0, 0⟩)
/-! ### the defs in the small language -/
def b_is_integer : List EV.St := [.ret (.andl [(.isi (.var 0) "int"), (.nt (.isi (.var 0) "bool"))])]
def d_is_integer : Fn := ⟨1, 1, 0, [], b_is_integer⟩
def s_is_integer : FS := ⟨"is_integer", "is_integer", top 8, ["value"], ["value"], d_is_integer⟩
def b_common_divisor : List EV.St := [.par [0, 1] [(.blt .abs [(.var 0)]), (.blt .abs [(.var 1)])],
  .whl (.cmp .Gt (.var 1) (.cst (.int 0)))
  [.par [0, 1] [(.var 1), (.bin .Mod (.var 0) (.var 1))]],
  .ret (.var 0)]
def d_common_divisor : Fn := ⟨2, 2, 0, [], b_common_divisor⟩
def s_common_divisor : FS := ⟨"common_divisor", "common_divisor", top 9, ["one", "other"], ["one", "other"], d_common_divisor⟩
def b_is_number : List EV.St := [.ife (.orl [(.nt (.val (.isi (.var 0) "tuple"))), (.cmp .NotEq (.blt .len [(.var 0)]) (.cst (.int 2))), (.nt (.val (.blt .all [(.comp (.nm 1) .seq [(.var 0)] [] (.call 0 [(.var 1)]))])))])
  [.ret (.cst (.bl false))]
  [],
  .ret (.andl [(.cmp .GtE (.sub (.var 0) (.cst (.int 1))) (.cst (.int 1))), (.cmp .Eq (.call 1 [(.sub (.var 0) (.cst (.int 0))), (.sub (.var 0) (.cst (.int 1)))]) (.cst (.int 1)))])]
def d_is_number : Fn := ⟨1, 2, 0, [], b_is_number⟩
def s_is_number : FS := ⟨"is_number", "is_number", top 10, ["value", "one"], ["value"], d_is_number⟩
def b_reduced : List EV.St := [.ife (.cmp .Lt (.var 1) (.cst (.int 0)))
  [.par [0, 1] [(.bin .Sub (.cst (.int 0)) (.var 0)), (.bin .Sub (.cst (.int 0)) (.var 1))]]
  [],
  .set (.nm 2) (.call 1 [(.var 0), (.var 1)]),
  .ret (.tup [(.bin .FloorDiv (.var 0) (.var 2)), (.bin .FloorDiv (.var 1) (.var 2))])]
def d_reduced : Fn := ⟨2, 3, 0, [], b_reduced⟩
def s_reduced : FS := ⟨"reduced", "reduced", top 11, ["top", "bottom", "divisor"], ["top", "bottom"], d_reduced⟩
def b_require_number : List EV.St := [.ife (.nt (.val (.call 2 [(.var 0)])))
  [.never]
  []]
def d_require_number : Fn := ⟨1, 1, 0, [], b_require_number⟩
def s_require_number : FS := ⟨"require_number", "require_number", top 12, ["value"], ["value"], d_require_number⟩
def b_added : List EV.St := [.ife (.chain .Eq .Eq (.sub (.var 0) (.cst (.int 1))) (.sub (.var 1) (.cst (.int 1))) (.cst (.int 1)))
  [.ret (.tup [(.bin .Add (.sub (.var 0) (.cst (.int 0))) (.sub (.var 1) (.cst (.int 0)))), (.cst (.int 1))])]
  [],
  .ret (.call 3 [(.bin .Add (.bin .Mult (.sub (.var 0) (.cst (.int 0))) (.sub (.var 1) (.cst (.int 1)))) (.bin .Mult (.sub (.var 1) (.cst (.int 0))) (.sub (.var 0) (.cst (.int 1))))), (.bin .Mult (.sub (.var 0) (.cst (.int 1))) (.sub (.var 1) (.cst (.int 1))))])]
def d_added : Fn := ⟨2, 2, 0, [], b_added⟩
def s_added : FS := ⟨"added", "added", top 13, ["one", "other"], ["one", "other"], d_added⟩
def b_multiplied : List EV.St := [.ife (.chain .Eq .Eq (.sub (.var 0) (.cst (.int 1))) (.sub (.var 1) (.cst (.int 1))) (.cst (.int 1)))
  [.ret (.tup [(.bin .Mult (.sub (.var 0) (.cst (.int 0))) (.sub (.var 1) (.cst (.int 0)))), (.cst (.int 1))])]
  [],
  .ret (.call 3 [(.bin .Mult (.sub (.var 0) (.cst (.int 0))) (.sub (.var 1) (.cst (.int 0)))), (.bin .Mult (.sub (.var 0) (.cst (.int 1))) (.sub (.var 1) (.cst (.int 1))))])]
def d_multiplied : Fn := ⟨2, 2, 0, [], b_multiplied⟩
def s_multiplied : FS := ⟨"multiplied", "multiplied", top 14, ["one", "other"], ["one", "other"], d_multiplied⟩
def b_opposite : List EV.St := [.ret (.tup [(.bin .Sub (.cst (.int 0)) (.sub (.var 0) (.cst (.int 0)))), (.sub (.var 0) (.cst (.int 1)))])]
def d_opposite : Fn := ⟨1, 1, 0, [], b_opposite⟩
def s_opposite : FS := ⟨"opposite", "opposite", top 15, ["one"], ["one"], d_opposite⟩
def b_divided : List EV.St := [.ret (.call 3 [(.bin .Mult (.sub (.var 0) (.cst (.int 0))) (.sub (.var 1) (.cst (.int 1)))), (.bin .Mult (.sub (.var 0) (.cst (.int 1))) (.sub (.var 1) (.cst (.int 0))))])]
def d_divided : Fn := ⟨2, 2, 0, [], b_divided⟩
def s_divided : FS := ⟨"divided", "divided", top 16, ["one", "other"], ["one", "other"], d_divided⟩
def b_over : List EV.St := [.exp (.call 4 [(.var 0)]),
  .exp (.call 4 [(.var 1)]),
  .ife (.cmp .Eq (.var 1) (.glo 0))
  [.never]
  [],
  .ret (.call 8 [(.var 0), (.var 1)])]
def d_over : Fn := ⟨2, 2, 0, [], b_over⟩
def s_over : FS := ⟨"over", "over", top 17, ["one", "other"], ["one", "other"], d_over⟩
def b_is_plain_word : List EV.St := [.ife (.orl [(.nt (.val (.isi (.var 0) "tuple"))), (.nt (.val (.blt .all [(.comp (.nm 1) .seq [(.var 0)] [] (.call 2 [(.var 1)]))])))])
  [.ret (.cst (.bl false))]
  [],
  .ret (.orl [(.cmp .Eq (.var 0) (.tup [])), (.cmp .NotEq (.sub (.var 0) (.neg (.cst (.int 1)))) (.glo 0))])]
def d_is_plain_word : Fn := ⟨1, 2, 0, [], b_is_plain_word⟩
def s_is_plain_word : FS := ⟨"is_plain_word", "is_plain_word", top 20, ["value", "one"], ["value"], d_is_plain_word⟩
def b_word_of_numbers : List EV.St := [.set (.nm 1) (.blt .len [(.var 0)]),
  .whl (.andl [(.cmp .Gt (.var 1) (.cst (.int 0))), (.cmp .Eq (.sub (.var 0) (.bin .Sub (.var 1) (.cst (.int 1)))) (.glo 0))])
  [.aug 1 .Sub (.cst (.int 1))],
  .ret (.blt .tuple [(.slc .hi (.var 0) [(.var 1)])])]
def d_word_of_numbers : Fn := ⟨1, 2, 0, [], b_word_of_numbers⟩
def s_word_of_numbers : FS := ⟨"word_of_numbers", "word_of_numbers", top 21, ["numbers", "many"], ["numbers"], d_word_of_numbers⟩
def b_scaled_word : List EV.St := [.ife (.cmp .Eq (.var 0) (.glo 0))
  [.ret (.tup [])]
  [],
  .ret (.ite (.cmp .Eq (.var 0) (.glo 1)) (.var 1) (.blt .tuple [(.comp (.nm 2) .seq [(.var 1)] [] (.call 6 [(.var 0), (.var 2)]))]))]
def d_scaled_word : Fn := ⟨2, 3, 0, [], b_scaled_word⟩
def s_scaled_word : FS := ⟨"scaled_word", "scaled_word", top 22, ["number", "one", "item"], ["number", "one"], d_scaled_word⟩
def b_sum_of_words : List EV.St := [.ife (.orl [(.cmp .Eq (.var 0) (.tup [])), (.cmp .Eq (.var 1) (.tup []))])
  [.ret (.bin .Add (.var 0) (.var 1))]
  [],
  .set (.nm 2) (.blt .max2 [(.blt .len [(.var 0)]), (.blt .len [(.var 1)])]),
  .par [3, 4] [(.bin .Add (.var 0) (.bin .Mult (.tup [(.glo 0)]) (.bin .Sub (.var 2) (.blt .len [(.var 0)])))), (.bin .Add (.var 1) (.bin .Mult (.tup [(.glo 0)]) (.bin .Sub (.var 2) (.blt .len [(.var 1)]))))],
  .ret (.call 11 [(.comp (.tp [(.nm 5), (.nm 6)]) .zip [(.var 3), (.var 4)] [] (.call 5 [(.var 5), (.var 6)]))])]
def d_sum_of_words : Fn := ⟨2, 7, 0, [], b_sum_of_words⟩
def s_sum_of_words : FS := ⟨"sum_of_words", "sum_of_words", top 23, ["one", "other", "many", "left", "right", "mine", "yours"], ["one", "other"], d_sum_of_words⟩
def b_less_word : List EV.St := [.ret (.call 13 [(.var 0), (.call 12 [(.call 7 [(.glo 1)]), (.var 1)])])]
def d_less_word : Fn := ⟨2, 2, 0, [], b_less_word⟩
def s_less_word : FS := ⟨"less_word", "less_word", top 24, ["one", "other"], ["one", "other"], d_less_word⟩
def b_later_word : List EV.St := [.ret (.ite (.cmp .Eq (.var 0) (.tup [])) (.tup []) (.bin .Add (.bin .Mult (.tup [(.glo 0)]) (.var 1)) (.var 0)))]
def d_later_word : Fn := ⟨2, 2, 0, [], b_later_word⟩
def s_later_word : FS := ⟨"later_word", "later_word", top 25, ["one", "days"], ["one", "days"], d_later_word⟩
def b_product_of_words : List EV.St := [.set (.nm 2) (.tup []),
  .fort (.tp [(.nm 3), (.nm 4)]) .enum [(.var 0)]
  [.ife (.cmp .NotEq (.var 4) (.glo 0))
  [.set (.nm 2) (.call 13 [(.var 2), (.call 15 [(.call 12 [(.var 4), (.var 1)]), (.var 3)])])]
  []],
  .ret (.var 2)]
def d_product_of_words : Fn := ⟨2, 5, 0, [], b_product_of_words⟩
def s_product_of_words : FS := ⟨"product_of_words", "product_of_words", top 26, ["one", "other", "found", "days", "number"], ["one", "other"], d_product_of_words⟩
def b_divided_word : List EV.St := [.par [2, 3] [(.tup []), (.call 8 [(.glo 1), (.sub (.var 1) (.neg (.cst (.int 1))))])],
  .whl (.cmp .GtE (.blt .len [(.var 0)]) (.blt .len [(.var 1)]))
  [.set (.nm 4) (.call 15 [(.tup [(.call 6 [(.var 3), (.sub (.var 0) (.neg (.cst (.int 1))))])]), (.bin .Sub (.blt .len [(.var 0)]) (.blt .len [(.var 1)]))]),
  .set (.nm 2) (.call 13 [(.var 2), (.var 4)]),
  .set (.nm 0) (.call 14 [(.var 0), (.call 16 [(.var 4), (.var 1)])])],
  .ret (.tup [(.var 2), (.var 0)])]
def d_divided_word : Fn := ⟨2, 5, 0, [], b_divided_word⟩
def s_divided_word : FS := ⟨"divided_word", "divided_word", top 27, ["one", "other", "times", "head", "part"], ["one", "other"], d_divided_word⟩
def b_is_short_word : List EV.St := [.ret (.andl [(.call 10 [(.var 0)]), (.cmp .LtE (.blt .len [(.var 0)]) (.bin .Add (.glo 2) (.cst (.int 1))))])]
def d_is_short_word : Fn := ⟨1, 1, 0, [], b_is_short_word⟩
def s_is_short_word : FS := ⟨"is_short_word", "is_short_word", top 30, ["value"], ["value"], d_is_short_word⟩
def b_require_word : List EV.St := [.ife (.nt (.val (.call 18 [(.var 0)])))
  [.never]
  []]
def d_require_word : Fn := ⟨1, 1, 0, [], b_require_word⟩
def s_require_word : FS := ⟨"require_word", "require_word", top 31, ["value"], ["value"], d_require_word⟩
def b_does_divide : List EV.St := [.ret (.ite (.cmp .Eq (.var 0) (.tup [])) (.cmp .Eq (.var 1) (.tup [])) (.cmp .Eq (.sub (.call 17 [(.var 1), (.var 0)]) (.cst (.int 1))) (.tup [])))]
def d_does_divide : Fn := ⟨2, 2, 0, [], b_does_divide⟩
def s_does_divide : FS := ⟨"does_divide", "does_divide", top 32, ["one", "other"], ["one", "other"], d_does_divide⟩
def b_divides : List EV.St := [.exp (.call 19 [(.var 0)]),
  .exp (.call 19 [(.var 1)]),
  .ret (.call 20 [(.var 0), (.var 1)])]
def d_divides : Fn := ⟨2, 2, 0, [], b_divides⟩
def s_divides : FS := ⟨"divides", "divides", top 33, ["one", "other"], ["one", "other"], d_divides⟩
def b_common_sum : List EV.St := [.par [2, 3] [(.tup [(.glo 3), (.tup [])]), (.tup [(.tup []), (.glo 3)])],
  .whl (.cmp .NotEq (.var 1) (.tup []))
  [.set (.tp [(.nm 4), (.nm 5)]) (.call 17 [(.var 0), (.var 1)]),
  .set (.nm 6) (.blt .tuple [(.comp (.tp [(.nm 8), (.nm 9)]) .zip [(.var 2), (.var 3)] [] (.call 14 [(.var 8), (.call 16 [(.var 4), (.var 9)])]))]),
  .set (.tp [(.nm 0), (.nm 1), (.nm 2), (.nm 3)]) (.tup [(.var 1), (.var 5), (.var 3), (.var 6)])],
  .ife (.cmp .Eq (.var 0) (.tup []))
  [.ret (.tup [(.tup []), (.tup []), (.tup [])])]
  [],
  .set (.nm 7) (.call 9 [(.glo 1), (.sub (.var 0) (.neg (.cst (.int 1))))]),
  .ret (.tup [(.call 12 [(.var 7), (.var 0)]), (.call 12 [(.var 7), (.sub (.var 2) (.cst (.int 0)))]), (.call 12 [(.var 7), (.sub (.var 2) (.cst (.int 1)))])])]
def d_common_sum : Fn := ⟨2, 10, 0, [], b_common_sum⟩
def s_common_sum : FS := ⟨"common_sum", "common_sum", top 34, ["one", "other", "first", "second", "times", "rest", "later_pair", "head", "mine", "yours"], ["one", "other"], d_common_sum⟩
def b_common : List EV.St := [.exp (.call 19 [(.var 0)]),
  .exp (.call 19 [(.var 1)]),
  .ret (.sub (.call 22 [(.var 0), (.var 1)]) (.cst (.int 0)))]
def d_common : Fn := ⟨2, 2, 0, [], b_common⟩
def s_common : FS := ⟨"common", "common", top 35, ["one", "other"], ["one", "other"], d_common⟩
def b_common_paper : List EV.St := [.exp (.call 19 [(.var 0)]),
  .exp (.call 19 [(.var 1)]),
  .set (.tp [(.nm 2), (.nm 3), (.nm 4)]) (.call 22 [(.var 0), (.var 1)]),
  .ife (.cmp .Eq (.var 2) (.tup []))
  [.ret (.tup [(.tup []), (.tup []), (.tup []), (.tup []), (.tup [])])]
  [],
  .ret (.tup [(.var 2), (.sub (.call 17 [(.var 0), (.var 2)]) (.cst (.int 0))), (.sub (.call 17 [(.var 1), (.var 2)]) (.cst (.int 0))), (.var 3), (.var 4)])]
def d_common_paper : Fn := ⟨2, 5, 0, [], b_common_paper⟩
def s_common_paper : FS := ⟨"common_paper", "common_paper", top 36, ["one", "other", "found", "first", "second"], ["one", "other"], d_common_paper⟩
def b_is_common_paper : List EV.St := [.exp (.call 19 [(.var 0)]),
  .exp (.call 19 [(.var 1)]),
  .ife (.orl [(.nt (.val (.isi (.var 2) "tuple"))), (.cmp .NotEq (.blt .len [(.var 2)]) (.cst (.int 5))), (.nt (.val (.blt .all [(.comp (.nm 8) .seq [(.var 2)] [] (.call 18 [(.var 8)]))])))])
  [.ret (.cst (.bl false))]
  [],
  .set (.tp [(.nm 3), (.nm 4), (.nm 5), (.nm 6), (.nm 7)]) (.var 2),
  .ife (.andl [(.cmp .NotEq (.var 3) (.tup [])), (.cmp .NotEq (.sub (.var 3) (.neg (.cst (.int 1)))) (.glo 1))])
  [.ret (.cst (.bl false))]
  [],
  .ife (.orl [(.cmp .NotEq (.call 16 [(.var 4), (.var 3)]) (.var 0)), (.cmp .NotEq (.call 16 [(.var 5), (.var 3)]) (.var 1))])
  [.ret (.cst (.bl false))]
  [],
  .ret (.cmp .Eq (.call 13 [(.call 16 [(.var 6), (.var 0)]), (.call 16 [(.var 7), (.var 1)])]) (.var 3))]
def d_is_common_paper : Fn := ⟨3, 9, 0, [], b_is_common_paper⟩
def s_is_common_paper : FS := ⟨"is_common_paper", "is_common_paper", top 37, ["one", "other", "value", "found", "left", "right", "first", "second", "item"], ["one", "other", "value"], d_is_common_paper⟩
def b_law_dice : List EV.St := [.set (.nm 2) (.ite (.cmp .Lt (.var 1) (.blt .len [(.var 0)])) (.blt .int [(.sub (.var 0) (.var 1))]) (.bin .Add (.bin .Mult (.cst (.int 137)) (.var 1)) (.cst (.int 29)))),
  .set (.nm 3) (.bin .Mod (.blt .int [(.blt .abs [(.var 2)])]) (.bin .Pow (.bin .Pow (.cst (.int 10)) (.cst (.int 53))) (.cst (.int 6)))),
  .set (.nm 4) (.bin .Add (.bin .Add (.bin .Add (.bin .Mult (.bin .Mod (.var 3) (.cst (.int 2305843009213693907))) (.cst (.int 71))) (.bin .Mult (.cst (.int 613)) (.var 1))) (.bin .Mult (.cst (.int 43)) (.blt .int [(.cmp .Lt (.var 2) (.cst (.int 0)))]))) (.cst (.int 19))),
  .retf (.lst [(.blt .max2 [(.cst (.int 0)), (.bin .Sub (.var 3) (.bin .Pow (.cst (.int 10)) (.cst (.int 16))))]), (.var 4), (.cst (.int 0))])]
def d_law_dice : Fn := ⟨2, 5, 0, [], b_law_dice⟩
def s_law_dice : FS := ⟨"_law_dice", "_law_dice", top 39, ["script", "spot", "cell", "great", "seed"], ["script", "spot"], d_law_dice⟩
def b_law_roll : List EV.St := [.ife (.cmp .Gt (.sub (.var 0) (.cst (.int 0))) (.cst (.int 0)))
  [.set (.nm 2) (.bin .Mod (.sub (.var 0) (.cst (.int 0))) (.var 1)),
  .sset 0 (.cst (.int 0)) (.bin .FloorDiv (.sub (.var 0) (.cst (.int 0))) (.var 1)),
  .ret (.blt .int [(.var 2)])]
  [],
  .sset 0 (.cst (.int 2)) (.bin .Add (.sub (.var 0) (.cst (.int 2))) (.cst (.int 1))),
  .set (.nm 3) (.bin .Mod (.bin .Add (.sub (.var 0) (.cst (.int 1))) (.bin .Mult (.cst (.int 49979687)) (.sub (.var 0) (.cst (.int 2))))) (.cst (.int 2305843009213693951))),
  .set (.nm 4) (.bin .Add (.bin .Mult (.bin .Mod (.bin .Add (.bin .Mult (.var 3) (.var 3)) (.bin .Mult (.cst (.int 137)) (.sub (.var 0) (.cst (.int 2))))) (.cst (.int 2305843009213693921))) (.cst (.int 32452843))) (.var 3)),
  .ret (.bin .Mod (.blt .int [(.bin .FloorDiv (.var 4) (.cst (.int 65587)))]) (.var 1))]
def d_law_roll : Fn := ⟨2, 5, 0, [], b_law_roll⟩
def s_law_roll : FS := ⟨"_law_roll", "_law_roll", top 40, ["dice", "total", "found", "one", "two"], ["dice", "total"], d_law_roll⟩
def b_law_pick : List EV.St := [.ret (.sub (.var 1) (.call 27 [(.var 0), (.blt .len [(.var 1)])]))]
def d_law_pick : Fn := ⟨2, 2, 0, [], b_law_pick⟩
def s_law_pick : FS := ⟨"_law_pick", "_law_pick", top 41, ["dice", "items"], ["dice", "items"], d_law_pick⟩
def b_law_fr : List EV.St := [.par [2, 3] [(.blt .abs [(.var 0)]), (.blt .abs [(.var 1)])],
  .whl (.cmp .Gt (.var 3) (.cst (.int 0)))
  [.par [2, 3] [(.var 3), (.bin .Mod (.var 2) (.var 3))]],
  .set (.nm 4) (.ite (.cmp .Lt (.var 1) (.cst (.int 0))) (.neg (.cst (.int 1))) (.cst (.int 1))),
  .ret (.tup [(.bin .FloorDiv (.bin .Mult (.var 4) (.var 0)) (.var 2)), (.bin .FloorDiv (.bin .Mult (.var 4) (.var 1)) (.var 2))])]
def d_law_fr : Fn := ⟨2, 5, 0, [], b_law_fr⟩
def s_law_fr : FS := ⟨"_law_fr", "_law_fr", top 42, ["top", "bottom", "one", "other", "sign"], ["top", "bottom"], d_law_fr⟩
def b_law_plus : List EV.St := [.ret (.call 29 [(.bin .Add (.bin .Mult (.sub (.var 0) (.cst (.int 0))) (.sub (.var 1) (.cst (.int 1)))) (.bin .Mult (.sub (.var 1) (.cst (.int 0))) (.sub (.var 0) (.cst (.int 1))))), (.bin .Mult (.sub (.var 0) (.cst (.int 1))) (.sub (.var 1) (.cst (.int 1))))])]
def d_law_plus : Fn := ⟨2, 2, 0, [], b_law_plus⟩
def s_law_plus : FS := ⟨"_law_plus", "_law_plus", top 43, ["one", "other"], ["one", "other"], d_law_plus⟩
def b_law_times : List EV.St := [.ret (.call 29 [(.bin .Mult (.sub (.var 0) (.cst (.int 0))) (.sub (.var 1) (.cst (.int 0)))), (.bin .Mult (.sub (.var 0) (.cst (.int 1))) (.sub (.var 1) (.cst (.int 1))))])]
def d_law_times : Fn := ⟨2, 2, 0, [], b_law_times⟩
def s_law_times : FS := ⟨"_law_times", "_law_times", top 44, ["one", "other"], ["one", "other"], d_law_times⟩
def b_law_over : List EV.St := [.ret (.call 29 [(.bin .Mult (.sub (.var 0) (.cst (.int 0))) (.sub (.var 1) (.cst (.int 1)))), (.bin .Mult (.sub (.var 0) (.cst (.int 1))) (.sub (.var 1) (.cst (.int 0))))])]
def d_law_over : Fn := ⟨2, 2, 0, [], b_law_over⟩
def s_law_over : FS := ⟨"_law_over", "_law_over", top 45, ["one", "other"], ["one", "other"], d_law_over⟩
def b_law_wd_cut : List EV.St := [.set (.nm 1) (.blt .len [(.var 0)]),
  .whl (.andl [(.cmp .Gt (.var 1) (.cst (.int 0))), (.cmp .Eq (.sub (.sub (.var 0) (.bin .Sub (.var 1) (.cst (.int 1)))) (.cst (.int 0))) (.cst (.int 0)))])
  [.set (.nm 1) (.bin .Sub (.var 1) (.cst (.int 1)))],
  .ret (.blt .tuple [(.slc .hi (.var 0) [(.var 1)])])]
def d_law_wd_cut : Fn := ⟨1, 2, 0, [], b_law_wd_cut⟩
def s_law_wd_cut : FS := ⟨"_law_wd_cut", "_law_wd_cut", top 46, ["numbers", "many"], ["numbers"], d_law_wd_cut⟩
def b_law_wd_plus : List EV.St := [.set (.nm 2) (.blt .max2 [(.blt .len [(.var 0)]), (.blt .len [(.var 1)])]),
  .par [3, 4] [(.bin .Add (.blt .list [(.var 0)]) (.bin .Mult (.lst [(.tup [(.cst (.int 0)), (.cst (.int 1))])]) (.bin .Sub (.var 2) (.blt .len [(.var 0)])))), (.bin .Add (.blt .list [(.var 1)]) (.bin .Mult (.lst [(.tup [(.cst (.int 0)), (.cst (.int 1))])]) (.bin .Sub (.var 2) (.blt .len [(.var 1)]))))],
  .ret (.call 33 [(.comp (.tp [(.nm 5), (.nm 6)]) .zip [(.var 3), (.var 4)] [] (.call 30 [(.var 5), (.var 6)]))])]
def d_law_wd_plus : Fn := ⟨2, 7, 0, [], b_law_wd_plus⟩
def s_law_wd_plus : FS := ⟨"_law_wd_plus", "_law_wd_plus", top 47, ["one", "other", "many", "left", "right", "mine", "yours"], ["one", "other"], d_law_wd_plus⟩
def b_law_wd_scaled : List EV.St := [.ret (.call 33 [(.comp (.nm 2) .seq [(.var 1)] [] (.call 31 [(.var 0), (.var 2)]))])]
def d_law_wd_scaled : Fn := ⟨2, 3, 0, [], b_law_wd_scaled⟩
def s_law_wd_scaled : FS := ⟨"_law_wd_scaled", "_law_wd_scaled", top 48, ["number", "one", "item"], ["number", "one"], d_law_wd_scaled⟩
def b_law_wd_minus : List EV.St := [.ret (.call 34 [(.var 0), (.call 35 [(.tup [(.neg (.cst (.int 1))), (.cst (.int 1))]), (.var 1)])])]
def d_law_wd_minus : Fn := ⟨2, 2, 0, [], b_law_wd_minus⟩
def s_law_wd_minus : FS := ⟨"_law_wd_minus", "_law_wd_minus", top 49, ["one", "other"], ["one", "other"], d_law_wd_minus⟩
def b_law_wd_later : List EV.St := [.ret (.ite (.cmp .NotEq (.var 0) (.tup [])) (.bin .Add (.bin .Mult (.tup [(.tup [(.cst (.int 0)), (.cst (.int 1))])]) (.var 1)) (.var 0)) (.tup []))]
def d_law_wd_later : Fn := ⟨2, 2, 0, [], b_law_wd_later⟩
def s_law_wd_later : FS := ⟨"_law_wd_later", "_law_wd_later", top 50, ["one", "days"], ["one", "days"], d_law_wd_later⟩
def b_law_wd_times : List EV.St := [.ife (.orl [(.cmp .Eq (.var 0) (.tup [])), (.cmp .Eq (.var 1) (.tup []))])
  [.ret (.tup [])]
  [],
  .newl 2 0 (.bin .Mult (.lst [(.tup [(.cst (.int 0)), (.cst (.int 1))])]) (.bin .Sub (.bin .Add (.blt .len [(.var 0)]) (.blt .len [(.var 1)])) (.cst (.int 1)))),
  .fort (.tp [(.nm 3), (.nm 4)]) .enum [(.var 0)]
  [.fort (.tp [(.nm 5), (.nm 6)]) .enum [(.var 1)]
  [.ife (.andl [(.cmp .NotEq (.sub (.var 4) (.cst (.int 0))) (.cst (.int 0))), (.cmp .NotEq (.sub (.var 6) (.cst (.int 0))) (.cst (.int 0)))])
  [.sset 2 (.bin .Add (.var 3) (.var 5)) (.call 30 [(.sub (.var 2) (.bin .Add (.var 3) (.var 5))), (.call 31 [(.var 4), (.var 6)])])]
  []]],
  .frz 2,
  .ret (.call 33 [(.var 2)])]
def d_law_wd_times : Fn := ⟨2, 7, 1, [], b_law_wd_times⟩
def s_law_wd_times : FS := ⟨"_law_wd_times", "_law_wd_times", top 51, ["one", "other", "found", "at", "mine", "spot", "yours"], ["one", "other"], d_law_wd_times⟩
def b_law_is_number : List EV.St := [.ife (.orl [(.nt (.val (.isi (.var 0) "tuple"))), (.cmp .NotEq (.blt .len [(.var 0)]) (.cst (.int 2)))])
  [.ret (.cst (.bl false))]
  [],
  .ife (.orl [(.cmp .NotEq (.comp (.nm 1) .seq [(.var 0)] [(.orl [(.nt (.val (.isi (.var 1) "int"))), (.val (.isi (.var 1) "bool"))])] (.cst (.int 1))) (.lst [])), (.cmp .Lt (.sub (.var 0) (.cst (.int 1))) (.cst (.int 1)))])
  [.ret (.cst (.bl false))]
  [],
  .ret (.cmp .Eq (.call 29 [(.sub (.var 0) (.cst (.int 0))), (.sub (.var 0) (.cst (.int 1)))]) (.var 0))]
def d_law_is_number : Fn := ⟨1, 2, 0, [], b_law_is_number⟩
def s_law_is_number : FS := ⟨"_law_is_number", "_law_is_number", top 52, ["value", "one"], ["value"], d_law_is_number⟩
def b_law_is_word : List EV.St := [.ife (.orl [(.nt (.val (.isi (.var 0) "tuple"))), (.cmp .NotEq (.comp (.nm 1) .seq [(.var 0)] [(.nt (.val (.call 39 [(.var 1)])))] (.cst (.int 1))) (.lst []))])
  [.ret (.cst (.bl false))]
  [],
  .ret (.orl [(.cmp .Eq (.var 0) (.tup [])), (.cmp .NotEq (.sub (.sub (.var 0) (.neg (.cst (.int 1)))) (.cst (.int 0))) (.cst (.int 0)))])]
def d_law_is_word : Fn := ⟨1, 2, 0, [], b_law_is_word⟩
def s_law_is_word : FS := ⟨"_law_is_word", "_law_is_word", top 53, ["value", "one"], ["value"], d_law_is_word⟩
def b_law_is_words : List EV.St := [.ret (.andl [(.isi (.var 1) "tuple"), (.cmp .Eq (.blt .len [(.var 1)]) (.var 0)), (.cmp .Eq (.comp (.nm 2) .seq [(.var 1)] [(.nt (.val (.call 40 [(.var 2)])))] (.cst (.int 1))) (.lst []))])]
def d_law_is_words : Fn := ⟨2, 3, 0, [], b_law_is_words⟩
def s_law_is_words : FS := ⟨"_law_is_words", "_law_is_words", top 54, ["width", "value", "one"], ["width", "value"], d_law_is_words⟩
def b_law_word : List EV.St := [.set (.nm 2) (.lst [(.tup [(.cst (.int 0)), (.cst (.int 1))]), (.tup [(.cst (.int 1)), (.cst (.int 1))]), (.tup [(.neg (.cst (.int 1))), (.cst (.int 1))]), (.tup [(.cst (.int 2)), (.cst (.int 1))]), (.tup [(.cst (.int 1)), (.cst (.int 2))]), (.tup [(.neg (.cst (.int 3))), (.cst (.int 2))])]),
  .ret (.call 33 [(.comp (.nm 3) .rng1 [(.call 27 [(.var 0), (.bin .Add (.var 1) (.cst (.int 2)))])] [] (.call 28 [(.var 0), (.var 2)]))])]
def d_law_word : Fn := ⟨2, 4, 0, [], b_law_word⟩
def s_law_word : FS := ⟨"_law_word", "_law_word", top 55, ["dice", "most", "some", "turn"], ["dice", "most"], d_law_word⟩
def b_law_common : List EV.St := [.set (.tp [(.nm 2), (.nm 3)]) (.tup [(.tup [(.tup [(.tup [(.cst (.int 1)), (.cst (.int 1))])]), (.tup [])]), (.tup [(.tup []), (.tup [(.tup [(.cst (.int 1)), (.cst (.int 1))])])])]),
  .whl (.cmp .NotEq (.var 1) (.tup []))
  [.set (.tp [(.nm 4), (.nm 5)]) (.tup [(.tup []), (.var 0)]),
  .whl (.cmp .GtE (.blt .len [(.var 5)]) (.blt .len [(.var 1)]))
  [.set (.nm 6) (.call 37 [(.tup [(.call 32 [(.sub (.var 5) (.neg (.cst (.int 1)))), (.sub (.var 1) (.neg (.cst (.int 1))))])]), (.bin .Sub (.blt .len [(.var 5)]) (.blt .len [(.var 1)]))]),
  .set (.tp [(.nm 4), (.nm 5)]) (.tup [(.call 34 [(.var 4), (.var 6)]), (.call 36 [(.var 5), (.call 38 [(.var 6), (.var 1)])])])],
  .set (.nm 7) (.blt .tuple [(.comp (.tp [(.nm 9), (.nm 10)]) .zip [(.var 2), (.var 3)] [] (.call 36 [(.var 9), (.call 38 [(.var 4), (.var 10)])]))]),
  .set (.tp [(.nm 0), (.nm 1), (.nm 2), (.nm 3)]) (.tup [(.var 1), (.var 5), (.var 3), (.var 7)])],
  .ife (.cmp .Eq (.var 0) (.tup []))
  [.ret (.tup [(.tup []), (.tup [(.tup []), (.tup [])])])]
  [],
  .set (.nm 8) (.call 32 [(.tup [(.cst (.int 1)), (.cst (.int 1))]), (.sub (.var 0) (.neg (.cst (.int 1))))]),
  .ret (.tup [(.call 35 [(.var 8), (.var 0)]), (.blt .tuple [(.comp (.nm 11) .seq [(.var 2)] [] (.call 35 [(.var 8), (.var 11)]))])])]
def d_law_common : Fn := ⟨2, 12, 0, [], b_law_common⟩
def s_law_common : FS := ⟨"_law_common", "_law_common", top 56, ["one", "other", "first", "second", "times", "rest", "part", "third", "head", "mine", "yours", "word"], ["one", "other"], d_law_common⟩
def b_law_is_paper : List EV.St := [.ife (.orl [(.nt (.val (.call 41 [(.cst (.int 5)), (.var 2)]))), (.cmp .NotEq (.comp (.nm 8) .seq [(.var 2)] [(.cmp .Gt (.blt .len [(.var 8)]) (.cst (.int 201)))] (.cst (.int 1))) (.lst []))])
  [.ret (.cst (.bl false))]
  [],
  .set (.tp [(.nm 3), (.nm 4), (.nm 5), (.nm 6), (.nm 7)]) (.var 2),
  .ife (.andl [(.cmp .NotEq (.var 3) (.tup [])), (.cmp .NotEq (.sub (.var 3) (.neg (.cst (.int 1)))) (.tup [(.cst (.int 1)), (.cst (.int 1))]))])
  [.ret (.cst (.bl false))]
  [],
  .ife (.orl [(.cmp .NotEq (.call 38 [(.var 4), (.var 3)]) (.var 0)), (.cmp .NotEq (.call 38 [(.var 5), (.var 3)]) (.var 1))])
  [.ret (.cst (.bl false))]
  [],
  .ret (.cmp .Eq (.call 34 [(.call 38 [(.var 6), (.var 0)]), (.call 38 [(.var 7), (.var 1)])]) (.var 3))]
def d_law_is_paper : Fn := ⟨3, 9, 0, [], b_law_is_paper⟩
def s_law_is_paper : FS := ⟨"_law_is_paper", "_law_is_paper", top 57, ["one", "other", "value", "found", "left", "right", "first", "second", "word"], ["one", "other", "value"], d_law_is_paper⟩
def b_law_near : List EV.St := [.set (.nm 4) (.call 28 [(.var 0), (.lst [(.tup [(.tup [(.cst (.int 1)), (.cst (.int 1))])]), (.tup [(.tup [(.cst (.int 0)), (.cst (.int 1))]), (.tup [(.cst (.int 1)), (.cst (.int 1))])]), (.tup [(.tup [(.neg (.cst (.int 2))), (.cst (.int 1))]), (.tup [(.cst (.int 0)), (.cst (.int 1))]), (.tup [(.cst (.int 1)), (.cst (.int 3))])])])]),
  .set (.tp [(.nm 5), (.nm 6), (.nm 7), (.nm 8), (.nm 9)]) (.var 3),
  .set (.nm 10) (.tup [(.var 5), (.var 6), (.var 7), (.call 34 [(.var 8), (.call 38 [(.var 4), (.var 7)])]), (.call 36 [(.var 9), (.call 38 [(.var 4), (.var 6)])])]),
  .set (.nm 11) (.blt .tuple [(.comp (.nm 16) .seq [(.var 3)] [] (.call 35 [(.tup [(.cst (.int 2)), (.cst (.int 1))]), (.var 16)]))]),
  .newl 12 0 (.lst [(.var 3), (.var 10), (.var 11), (.blt .list [(.var 3)]), (.slc .hi (.var 3) [(.cst (.int 4))]), (.bin .Add (.var 3) (.tup [(.tup [])])), (.cst .non), (.tup []), (.tup [(.var 5), (.var 7), (.var 6), (.var 8), (.var 9)])]),
  .newl 12 0 (.bin .Add (.var 12) (.lst [(.tup [(.tup [(.tup [(.cst (.int 1)), (.cst (.int 1))])]), (.var 1), (.var 2), (.var 8), (.var 9)]), (.bin .Add (.tup [(.tup [(.tup [(.cst (.int 1)), (.cst (.int 1))])])]) (.slc .lo (.var 3) [(.cst (.int 1))])), (.bin .Add (.tup [(.tup [])]) (.slc .lo (.var 3) [(.cst (.int 1))])), (.bin .Mult (.tup [(.tup [])]) (.cst (.int 5)))])),
  .fort (.nm 13) .rng1 [(.cst (.int 5))]
  [.set (.nm 14) (.call 34 [(.sub (.var 3) (.var 13)), (.call 28 [(.var 0), (.lst [(.tup [(.tup [(.cst (.int 1)), (.cst (.int 1))])]), (.tup [(.tup [(.cst (.int 0)), (.cst (.int 1))]), (.tup [(.cst (.int 1)), (.cst (.int 2))])])])])]),
  .app 12 (.bin .Add (.bin .Add (.slc .hi (.var 3) [(.var 13)]) (.tup [(.var 14)])) (.slc .lo (.var 3) [(.bin .Add (.var 13) (.cst (.int 1)))])),
  .set (.nm 15) (.call 28 [(.var 0), (.lst [(.cst .non), (.cst (.int 0)), (.blt .list [(.sub (.var 3) (.var 13))]), (.bin .Add (.sub (.var 3) (.var 13)) (.tup [(.tup [(.cst (.int 0)), (.cst (.int 1))])])), (.tup [(.tup [(.cst (.int 2)), (.cst (.int 2))])]), (.cst (.str "word")), (.tup [(.cst (.bl true))])])]),
  .app 12 (.bin .Add (.bin .Add (.slc .hi (.var 3) [(.var 13)]) (.tup [(.var 15)])) (.slc .lo (.var 3) [(.bin .Add (.var 13) (.cst (.int 1)))]))],
  .frz 12,
  .ret (.var 12)]
def d_law_near : Fn := ⟨4, 17, 1, [], b_law_near⟩
def s_law_near : FS := ⟨"_law_near", "_law_near", top 58, ["dice", "one", "other", "value", "word", "found", "left", "right", "first", "second", "more", "twice", "near", "at", "bent", "odd", "item"], ["dice", "one", "other", "value"], d_law_near⟩
def b_law_right : List EV.St := [.set (.nm 1) (.call 42 [(.var 0), (.cst (.int 3))]),
  .par [2, 3] [(.call 38 [(.var 1), (.call 42 [(.var 0), (.cst (.int 4))])]), (.call 38 [(.var 1), (.call 42 [(.var 0), (.cst (.int 3))])])],
  .ife (.cmp .Eq (.call 27 [(.var 0), (.cst (.int 5))]) (.cst (.int 0)))
  [.set (.nm 3) (.tup [])]
  [],
  .set (.tp [(.nm 4), (.nm 5)]) (.call 43 [(.var 2), (.var 3)]),
  .set (.nm 6) (.call 24 [(.var 2), (.var 3)]),
  .ife (.orl [(.cmp .NotEq (.blt .repr [(.call 23 [(.var 2), (.var 3)])]) (.blt .repr [(.var 4)])), (.cmp .NotEq (.blt .repr [(.call 23 [(.var 3), (.var 2)])]) (.blt .repr [(.var 4)])), (.cmp .NotEq (.sub (.var 6) (.cst (.int 0))) (.var 4))])
  [.ret (.cst (.bl false))]
  [],
  .ife (.orl [(.nt (.val (.call 44 [(.var 2), (.var 3), (.var 6)]))), (.cmp .IsNot (.call 21 [(.var 4), (.var 2)]) (.cst (.bl true))), (.cmp .IsNot (.call 21 [(.var 4), (.var 3)]) (.cst (.bl true)))])
  [.ret (.cst (.bl false))]
  [],
  .ife (.andl [(.cmp .NotEq (.var 1) (.tup [])), (.cmp .IsNot (.call 21 [(.var 1), (.var 4)]) (.cst (.bl true)))])
  [.ret (.cst (.bl false))]
  [],
  .set (.nm 7) (.comp (.nm 10) .seq [(.tup [(.var 2), (.var 3)])] [] (.call 47 [(.var 10), (.var 4)])),
  .set (.nm 8) (.tup [(.var 4), (.sub (.var 7) (.cst (.int 0))), (.sub (.var 7) (.cst (.int 1))), (.sub (.var 5) (.cst (.int 0))), (.sub (.var 5) (.cst (.int 1)))]),
  .fort (.nm 9) .seq [(.bin .Add (.call 45 [(.var 0), (.var 2), (.var 3), (.var 6)]) (.call 45 [(.var 0), (.var 2), (.var 3), (.var 8)]))]
  [.ife (.cmp .NotEq (.blt .repr [(.call 25 [(.var 2), (.var 3), (.var 9)])]) (.blt .repr [(.call 44 [(.var 2), (.var 3), (.var 9)])]))
  [.ret (.cst (.bl false))]
  []],
  .ret (.cst (.bl true))]
def d_law_right : Fn := ⟨1, 11, 0, [], b_law_right⟩
def s_law_right : FS := ⟨"_law_right", "_law_right", top 59, ["dice", "shared", "one", "other", "due", "sums", "paper", "left", "mine", "value", "word"], ["dice"], d_law_right⟩
def b_law_quotient : List EV.St := [.set (.nm 2) (.tup []),
  .whl (.cmp .NotEq (.var 0) (.tup []))
  [.set (.nm 3) (.call 37 [(.tup [(.call 32 [(.sub (.var 0) (.neg (.cst (.int 1)))), (.sub (.var 1) (.neg (.cst (.int 1))))])]), (.bin .Sub (.blt .len [(.var 0)]) (.blt .len [(.var 1)]))]),
  .par [2, 0] [(.call 34 [(.var 2), (.var 3)]), (.call 36 [(.var 0), (.call 38 [(.var 3), (.var 1)])])]],
  .ret (.var 2)]
def d_law_quotient : Fn := ⟨2, 4, 0, [], b_law_quotient⟩
def s_law_quotient : FS := ⟨"_law_quotient", "_law_quotient", top 60, ["one", "other", "found", "part"], ["one", "other"], d_law_quotient⟩
def b_law : List EV.St := [.fort (.nm 1) .rng1 [(.blt .max2 [(.cst (.int 1)), (.blt .min2 [(.cst (.int 5)), (.blt .len [(.var 0)])])])]
  [.newl 2 0 (.call 26 [(.var 0), (.var 1)]),
  .fort (.nm 3) .rng1 [(.cst (.int 4))]
  [.ife (.nt (.val (.call 46 [(.var 2)])))
  [.ret (.cst (.bl false))]
  []]],
  .set (.tp [(.nm 4), (.nm 5)]) (.tup [(.tup [(.tup [(.cst (.int 0)), (.cst (.int 1))]), (.tup [(.cst (.int 2)), (.cst (.int 1))])]), (.tup [(.tup [(.cst (.int 0)), (.cst (.int 1))]), (.tup [(.cst (.int 0)), (.cst (.int 1))]), (.tup [(.cst (.int 0)), (.cst (.int 1))]), (.tup [(.neg (.cst (.int 1))), (.cst (.int 3))])])]),
  .set (.nm 6) (.lst [(.call 23 [(.var 4), (.var 5)]), (.call 23 [(.tup []), (.tup [])]), (.call 23 [(.tup []), (.var 5)]), (.call 23 [(.tup [(.tup [(.cst (.int 5)), (.cst (.int 1))])]), (.var 5)])]),
  .ret (.cmp .Eq (.blt .repr [(.var 6)]) (.blt .repr [(.lst [(.tup [(.tup [(.cst (.int 0)), (.cst (.int 1))]), (.tup [(.cst (.int 1)), (.cst (.int 1))])]), (.tup []), (.tup [(.tup [(.cst (.int 0)), (.cst (.int 1))]), (.tup [(.cst (.int 0)), (.cst (.int 1))]), (.tup [(.cst (.int 0)), (.cst (.int 1))]), (.tup [(.cst (.int 1)), (.cst (.int 1))])]), (.tup [(.tup [(.cst (.int 1)), (.cst (.int 1))])])])]))]
def d_law : Fn := ⟨1, 7, 1, [], b_law⟩
def s_law : FS := ⟨"law", "law", top 61, ["script", "spot", "dice", "turn", "one", "other", "told"], ["script"], d_law⟩
def fs : List FS := [s_is_integer, s_common_divisor, s_is_number, s_reduced, s_require_number, s_added, s_multiplied, s_opposite, s_divided, s_over, s_is_plain_word, s_word_of_numbers, s_scaled_word, s_sum_of_words, s_less_word, s_later_word, s_product_of_words, s_divided_word, s_is_short_word, s_require_word, s_does_divide, s_divides, s_common_sum, s_common, s_common_paper, s_is_common_paper, s_law_dice, s_law_roll, s_law_pick, s_law_fr, s_law_plus, s_law_times, s_law_over, s_law_wd_cut, s_law_wd_plus, s_law_wd_scaled, s_law_wd_minus, s_law_wd_later, s_law_wd_times, s_law_is_number, s_law_is_word, s_law_is_words, s_law_word, s_law_common, s_law_is_paper, s_law_near, s_law_right, s_law_quotient, s_law]
def cs : List (Str × D) := [("NOUGHT", (.tup [(.int 0), (.int 1)])), ("ONE", (.tup [(.int 1), (.int 1)])), ("MAX_DEGREE", (.int 200)), ("UNIT_WORD", (.tup [(.tup [(.int 1), (.int 1)])]))]
def bs : List Str := ["isinstance", "int", "bool", "abs", "tuple", "len", "all", "max", "zip", "enumerate", "list", "range", "repr", "min"]
abbrev W0 : Wd := FS.wd cs fs
abbrev n0 : Wn := FS.wn fs bs
theorem fs_ok : fs.all (FS.ok W0 n0) = true := by decide +kernel
theorem bd_is_integer : BindF s_is_integer := bind0 rfl fun _ _ _ _ _ _ us hl => match us, hl with | [_], _ => rfl
theorem bd_common_divisor : BindF s_common_divisor := bind0 rfl fun _ _ _ _ _ _ us hl => match us, hl with | [_, _], _ => rfl
theorem bd_is_number : BindF s_is_number := bind0 rfl fun _ _ _ _ _ _ us hl => match us, hl with | [_], _ => rfl
theorem bd_reduced : BindF s_reduced := bind0 rfl fun _ _ _ _ _ _ us hl => match us, hl with | [_, _], _ => rfl
theorem bd_require_number : BindF s_require_number := bind0 rfl fun _ _ _ _ _ _ us hl => match us, hl with | [_], _ => rfl
theorem bd_added : BindF s_added := bind0 rfl fun _ _ _ _ _ _ us hl => match us, hl with | [_, _], _ => rfl
theorem bd_multiplied : BindF s_multiplied := bind0 rfl fun _ _ _ _ _ _ us hl => match us, hl with | [_, _], _ => rfl
theorem bd_opposite : BindF s_opposite := bind0 rfl fun _ _ _ _ _ _ us hl => match us, hl with | [_], _ => rfl
theorem bd_divided : BindF s_divided := bind0 rfl fun _ _ _ _ _ _ us hl => match us, hl with | [_, _], _ => rfl
theorem bd_over : BindF s_over := bind0 rfl fun _ _ _ _ _ _ us hl => match us, hl with | [_, _], _ => rfl
theorem bd_is_plain_word : BindF s_is_plain_word := bind0 rfl fun _ _ _ _ _ _ us hl => match us, hl with | [_], _ => rfl
theorem bd_word_of_numbers : BindF s_word_of_numbers := bind0 rfl fun _ _ _ _ _ _ us hl => match us, hl with | [_], _ => rfl
theorem bd_scaled_word : BindF s_scaled_word := bind0 rfl fun _ _ _ _ _ _ us hl => match us, hl with | [_, _], _ => rfl
theorem bd_sum_of_words : BindF s_sum_of_words := bind0 rfl fun _ _ _ _ _ _ us hl => match us, hl with | [_, _], _ => rfl
theorem bd_less_word : BindF s_less_word := bind0 rfl fun _ _ _ _ _ _ us hl => match us, hl with | [_, _], _ => rfl
theorem bd_later_word : BindF s_later_word := bind0 rfl fun _ _ _ _ _ _ us hl => match us, hl with | [_, _], _ => rfl
theorem bd_product_of_words : BindF s_product_of_words := bind0 rfl fun _ _ _ _ _ _ us hl => match us, hl with | [_, _], _ => rfl
theorem bd_divided_word : BindF s_divided_word := bind0 rfl fun _ _ _ _ _ _ us hl => match us, hl with | [_, _], _ => rfl
theorem bd_is_short_word : BindF s_is_short_word := bind0 rfl fun _ _ _ _ _ _ us hl => match us, hl with | [_], _ => rfl
theorem bd_require_word : BindF s_require_word := bind0 rfl fun _ _ _ _ _ _ us hl => match us, hl with | [_], _ => rfl
theorem bd_does_divide : BindF s_does_divide := bind0 rfl fun _ _ _ _ _ _ us hl => match us, hl with | [_, _], _ => rfl
theorem bd_divides : BindF s_divides := bind0 rfl fun _ _ _ _ _ _ us hl => match us, hl with | [_, _], _ => rfl
theorem bd_common_sum : BindF s_common_sum := bind0 rfl fun _ _ _ _ _ _ us hl => match us, hl with | [_, _], _ => rfl
theorem bd_common : BindF s_common := bind0 rfl fun _ _ _ _ _ _ us hl => match us, hl with | [_, _], _ => rfl
theorem bd_common_paper : BindF s_common_paper := bind0 rfl fun _ _ _ _ _ _ us hl => match us, hl with | [_, _], _ => rfl
theorem bd_is_common_paper : BindF s_is_common_paper := bind0 rfl fun _ _ _ _ _ _ us hl => match us, hl with | [_, _, _], _ => rfl
theorem bd_law_dice : BindF s_law_dice := bind0 rfl fun _ _ _ _ _ _ us hl => match us, hl with | [_, _], _ => rfl
theorem bd_law_roll : BindF s_law_roll := bind0 rfl fun _ _ _ _ _ _ us hl => match us, hl with | [_, _], _ => rfl
theorem bd_law_pick : BindF s_law_pick := bind0 rfl fun _ _ _ _ _ _ us hl => match us, hl with | [_, _], _ => rfl
theorem bd_law_fr : BindF s_law_fr := bind0 rfl fun _ _ _ _ _ _ us hl => match us, hl with | [_, _], _ => rfl
theorem bd_law_plus : BindF s_law_plus := bind0 rfl fun _ _ _ _ _ _ us hl => match us, hl with | [_, _], _ => rfl
theorem bd_law_times : BindF s_law_times := bind0 rfl fun _ _ _ _ _ _ us hl => match us, hl with | [_, _], _ => rfl
theorem bd_law_over : BindF s_law_over := bind0 rfl fun _ _ _ _ _ _ us hl => match us, hl with | [_, _], _ => rfl
theorem bd_law_wd_cut : BindF s_law_wd_cut := bind0 rfl fun _ _ _ _ _ _ us hl => match us, hl with | [_], _ => rfl
theorem bd_law_wd_plus : BindF s_law_wd_plus := bind0 rfl fun _ _ _ _ _ _ us hl => match us, hl with | [_, _], _ => rfl
theorem bd_law_wd_scaled : BindF s_law_wd_scaled := bind0 rfl fun _ _ _ _ _ _ us hl => match us, hl with | [_, _], _ => rfl
theorem bd_law_wd_minus : BindF s_law_wd_minus := bind0 rfl fun _ _ _ _ _ _ us hl => match us, hl with | [_, _], _ => rfl
theorem bd_law_wd_later : BindF s_law_wd_later := bind0 rfl fun _ _ _ _ _ _ us hl => match us, hl with | [_, _], _ => rfl
theorem bd_law_wd_times : BindF s_law_wd_times := bind0 rfl fun _ _ _ _ _ _ us hl => match us, hl with | [_, _], _ => rfl
theorem bd_law_is_number : BindF s_law_is_number := bind0 rfl fun _ _ _ _ _ _ us hl => match us, hl with | [_], _ => rfl
theorem bd_law_is_word : BindF s_law_is_word := bind0 rfl fun _ _ _ _ _ _ us hl => match us, hl with | [_], _ => rfl
theorem bd_law_is_words : BindF s_law_is_words := bind0 rfl fun _ _ _ _ _ _ us hl => match us, hl with | [_, _], _ => rfl
theorem bd_law_word : BindF s_law_word := bind0 rfl fun _ _ _ _ _ _ us hl => match us, hl with | [_, _], _ => rfl
theorem bd_law_common : BindF s_law_common := bind0 rfl fun _ _ _ _ _ _ us hl => match us, hl with | [_, _], _ => rfl
theorem bd_law_is_paper : BindF s_law_is_paper := bind0 rfl fun _ _ _ _ _ _ us hl => match us, hl with | [_, _, _], _ => rfl
theorem bd_law_near : BindF s_law_near := bind0 rfl fun _ _ _ _ _ _ us hl => match us, hl with | [_, _, _, _], _ => rfl
theorem bd_law_right : BindF s_law_right := bind0 rfl fun _ _ _ _ _ _ us hl => match us, hl with | [_], _ => rfl
theorem bd_law_quotient : BindF s_law_quotient := bind0 rfl fun _ _ _ _ _ _ us hl => match us, hl with | [_, _], _ => rfl
theorem bd_law : BindF s_law := bind0 rfl fun _ _ _ _ _ _ us hl => match us, hl with | [_], _ => rfl
theorem bd_all : AllF BindF fs := ⟨bd_is_integer, bd_common_divisor, bd_is_number, bd_reduced, bd_require_number, bd_added, bd_multiplied, bd_opposite, bd_divided, bd_over, bd_is_plain_word, bd_word_of_numbers, bd_scaled_word, bd_sum_of_words, bd_less_word, bd_later_word, bd_product_of_words, bd_divided_word, bd_is_short_word, bd_require_word, bd_does_divide, bd_divides, bd_common_sum, bd_common, bd_common_paper, bd_is_common_paper, bd_law_dice, bd_law_roll, bd_law_pick, bd_law_fr, bd_law_plus, bd_law_times, bd_law_over, bd_law_wd_cut, bd_law_wd_plus, bd_law_wd_scaled, bd_law_wd_minus, bd_law_wd_later, bd_law_wd_times, bd_law_is_number, bd_law_is_word, bd_law_is_words, bd_law_word, bd_law_common, bd_law_is_paper, bd_law_near, bd_law_right, bd_law_quotient, bd_law, trivial⟩
theorem c_is_integer (lv : Nat) (vs : List Vl) (m : Sto) : callF W0 (lv + 1) 0 vs m = runF W0 (callF W0 lv) d_is_integer vs m := rfl
theorem c_common_divisor (lv : Nat) (vs : List Vl) (m : Sto) : callF W0 (lv + 1) 1 vs m = runF W0 (callF W0 lv) d_common_divisor vs m := rfl
theorem c_is_number (lv : Nat) (vs : List Vl) (m : Sto) : callF W0 (lv + 1) 2 vs m = runF W0 (callF W0 lv) d_is_number vs m := rfl
theorem c_reduced (lv : Nat) (vs : List Vl) (m : Sto) : callF W0 (lv + 1) 3 vs m = runF W0 (callF W0 lv) d_reduced vs m := rfl
theorem c_require_number (lv : Nat) (vs : List Vl) (m : Sto) : callF W0 (lv + 1) 4 vs m = runF W0 (callF W0 lv) d_require_number vs m := rfl
theorem c_added (lv : Nat) (vs : List Vl) (m : Sto) : callF W0 (lv + 1) 5 vs m = runF W0 (callF W0 lv) d_added vs m := rfl
theorem c_multiplied (lv : Nat) (vs : List Vl) (m : Sto) : callF W0 (lv + 1) 6 vs m = runF W0 (callF W0 lv) d_multiplied vs m := rfl
theorem c_opposite (lv : Nat) (vs : List Vl) (m : Sto) : callF W0 (lv + 1) 7 vs m = runF W0 (callF W0 lv) d_opposite vs m := rfl
theorem c_divided (lv : Nat) (vs : List Vl) (m : Sto) : callF W0 (lv + 1) 8 vs m = runF W0 (callF W0 lv) d_divided vs m := rfl
theorem c_over (lv : Nat) (vs : List Vl) (m : Sto) : callF W0 (lv + 1) 9 vs m = runF W0 (callF W0 lv) d_over vs m := rfl
theorem c_is_plain_word (lv : Nat) (vs : List Vl) (m : Sto) : callF W0 (lv + 1) 10 vs m = runF W0 (callF W0 lv) d_is_plain_word vs m := rfl
theorem c_word_of_numbers (lv : Nat) (vs : List Vl) (m : Sto) : callF W0 (lv + 1) 11 vs m = runF W0 (callF W0 lv) d_word_of_numbers vs m := rfl
theorem c_scaled_word (lv : Nat) (vs : List Vl) (m : Sto) : callF W0 (lv + 1) 12 vs m = runF W0 (callF W0 lv) d_scaled_word vs m := rfl
theorem c_sum_of_words (lv : Nat) (vs : List Vl) (m : Sto) : callF W0 (lv + 1) 13 vs m = runF W0 (callF W0 lv) d_sum_of_words vs m := rfl
theorem c_less_word (lv : Nat) (vs : List Vl) (m : Sto) : callF W0 (lv + 1) 14 vs m = runF W0 (callF W0 lv) d_less_word vs m := rfl
theorem c_later_word (lv : Nat) (vs : List Vl) (m : Sto) : callF W0 (lv + 1) 15 vs m = runF W0 (callF W0 lv) d_later_word vs m := rfl
theorem c_product_of_words (lv : Nat) (vs : List Vl) (m : Sto) : callF W0 (lv + 1) 16 vs m = runF W0 (callF W0 lv) d_product_of_words vs m := rfl
theorem c_divided_word (lv : Nat) (vs : List Vl) (m : Sto) : callF W0 (lv + 1) 17 vs m = runF W0 (callF W0 lv) d_divided_word vs m := rfl
theorem c_is_short_word (lv : Nat) (vs : List Vl) (m : Sto) : callF W0 (lv + 1) 18 vs m = runF W0 (callF W0 lv) d_is_short_word vs m := rfl
theorem c_require_word (lv : Nat) (vs : List Vl) (m : Sto) : callF W0 (lv + 1) 19 vs m = runF W0 (callF W0 lv) d_require_word vs m := rfl
theorem c_does_divide (lv : Nat) (vs : List Vl) (m : Sto) : callF W0 (lv + 1) 20 vs m = runF W0 (callF W0 lv) d_does_divide vs m := rfl
theorem c_divides (lv : Nat) (vs : List Vl) (m : Sto) : callF W0 (lv + 1) 21 vs m = runF W0 (callF W0 lv) d_divides vs m := rfl
theorem c_common_sum (lv : Nat) (vs : List Vl) (m : Sto) : callF W0 (lv + 1) 22 vs m = runF W0 (callF W0 lv) d_common_sum vs m := rfl
theorem c_common (lv : Nat) (vs : List Vl) (m : Sto) : callF W0 (lv + 1) 23 vs m = runF W0 (callF W0 lv) d_common vs m := rfl
theorem c_common_paper (lv : Nat) (vs : List Vl) (m : Sto) : callF W0 (lv + 1) 24 vs m = runF W0 (callF W0 lv) d_common_paper vs m := rfl
theorem c_is_common_paper (lv : Nat) (vs : List Vl) (m : Sto) : callF W0 (lv + 1) 25 vs m = runF W0 (callF W0 lv) d_is_common_paper vs m := rfl
theorem c_law_dice (lv : Nat) (vs : List Vl) (m : Sto) : callF W0 (lv + 1) 26 vs m = runF W0 (callF W0 lv) d_law_dice vs m := rfl
theorem c_law_roll (lv : Nat) (vs : List Vl) (m : Sto) : callF W0 (lv + 1) 27 vs m = runF W0 (callF W0 lv) d_law_roll vs m := rfl
theorem c_law_pick (lv : Nat) (vs : List Vl) (m : Sto) : callF W0 (lv + 1) 28 vs m = runF W0 (callF W0 lv) d_law_pick vs m := rfl
theorem c_law_fr (lv : Nat) (vs : List Vl) (m : Sto) : callF W0 (lv + 1) 29 vs m = runF W0 (callF W0 lv) d_law_fr vs m := rfl
theorem c_law_plus (lv : Nat) (vs : List Vl) (m : Sto) : callF W0 (lv + 1) 30 vs m = runF W0 (callF W0 lv) d_law_plus vs m := rfl
theorem c_law_times (lv : Nat) (vs : List Vl) (m : Sto) : callF W0 (lv + 1) 31 vs m = runF W0 (callF W0 lv) d_law_times vs m := rfl
theorem c_law_over (lv : Nat) (vs : List Vl) (m : Sto) : callF W0 (lv + 1) 32 vs m = runF W0 (callF W0 lv) d_law_over vs m := rfl
theorem c_law_wd_cut (lv : Nat) (vs : List Vl) (m : Sto) : callF W0 (lv + 1) 33 vs m = runF W0 (callF W0 lv) d_law_wd_cut vs m := rfl
theorem c_law_wd_plus (lv : Nat) (vs : List Vl) (m : Sto) : callF W0 (lv + 1) 34 vs m = runF W0 (callF W0 lv) d_law_wd_plus vs m := rfl
theorem c_law_wd_scaled (lv : Nat) (vs : List Vl) (m : Sto) : callF W0 (lv + 1) 35 vs m = runF W0 (callF W0 lv) d_law_wd_scaled vs m := rfl
theorem c_law_wd_minus (lv : Nat) (vs : List Vl) (m : Sto) : callF W0 (lv + 1) 36 vs m = runF W0 (callF W0 lv) d_law_wd_minus vs m := rfl
theorem c_law_wd_later (lv : Nat) (vs : List Vl) (m : Sto) : callF W0 (lv + 1) 37 vs m = runF W0 (callF W0 lv) d_law_wd_later vs m := rfl
theorem c_law_wd_times (lv : Nat) (vs : List Vl) (m : Sto) : callF W0 (lv + 1) 38 vs m = runF W0 (callF W0 lv) d_law_wd_times vs m := rfl
theorem c_law_is_number (lv : Nat) (vs : List Vl) (m : Sto) : callF W0 (lv + 1) 39 vs m = runF W0 (callF W0 lv) d_law_is_number vs m := rfl
theorem c_law_is_word (lv : Nat) (vs : List Vl) (m : Sto) : callF W0 (lv + 1) 40 vs m = runF W0 (callF W0 lv) d_law_is_word vs m := rfl
theorem c_law_is_words (lv : Nat) (vs : List Vl) (m : Sto) : callF W0 (lv + 1) 41 vs m = runF W0 (callF W0 lv) d_law_is_words vs m := rfl
theorem c_law_word (lv : Nat) (vs : List Vl) (m : Sto) : callF W0 (lv + 1) 42 vs m = runF W0 (callF W0 lv) d_law_word vs m := rfl
theorem c_law_common (lv : Nat) (vs : List Vl) (m : Sto) : callF W0 (lv + 1) 43 vs m = runF W0 (callF W0 lv) d_law_common vs m := rfl
theorem c_law_is_paper (lv : Nat) (vs : List Vl) (m : Sto) : callF W0 (lv + 1) 44 vs m = runF W0 (callF W0 lv) d_law_is_paper vs m := rfl
theorem c_law_near (lv : Nat) (vs : List Vl) (m : Sto) : callF W0 (lv + 1) 45 vs m = runF W0 (callF W0 lv) d_law_near vs m := rfl
theorem c_law_right (lv : Nat) (vs : List Vl) (m : Sto) : callF W0 (lv + 1) 46 vs m = runF W0 (callF W0 lv) d_law_right vs m := rfl
theorem c_law_quotient (lv : Nat) (vs : List Vl) (m : Sto) : callF W0 (lv + 1) 47 vs m = runF W0 (callF W0 lv) d_law_quotient vs m := rfl
theorem c_law (lv : Nat) (vs : List Vl) (m : Sto) : callF W0 (lv + 1) 48 vs m = runF W0 (callF W0 lv) d_law vs m := rfl
theorem tab {K : PySem.W.Frag} {mg : Str → Option Value} {h : Heap} (kin : K.In h) (G : h.Ns mainGlobals mg) (hf : AllF (FnIn K) fs) (hc : AllF (ConIn K) cs) (hb : AllF (NoIn K) bs) : ∃ ad : Nat → Addr, Tab K ad W0 n0 mg := tab_of kin G hf hc hb fs_ok bd_all
end K24

set_option Elab.async false
set_option linter.all false
set_option maxRecDepth 100000
set_option maxHeartbeats 1000000
set_option exponentiation.threshold 10000
namespace K24
open PySem EV
/-! ### small numbers -/
def Sm (k : Nat) (x : Int) : Prop := x.natAbs < 2 ^ k
theorem log_lt {k : Nat} {x : Int} (h : Sm k x) (hk : 0 < k) : x.natAbs.log2 < k := by
  by_cases z : x.natAbs = 0
  · rw [z, Nat.log2_zero]; exact hk
  · exact (Nat.log2_lt z).mpr h
theorem mul_ok {j k : Nat} {x y : Int} (hx : Sm j x) (hy : Sm k y) (h : j + k ≤ 100000000) (hj : 0 < j) (hk : 0 < k) : mulOk x y = true := by
  have a := log_lt hx hj
  have b := log_lt hy hk
  unfold mulOk
  exact decide_eq_true (by omega)
theorem div_ok {k : Nat} {x y : Int} (hy : Sm k y) (h : k ≤ 8980) : Builtin.divisionGoesByPylong x y = false := by
  unfold Builtin.divisionGoesByPylong
  dsimp only
  by_cases z : y = 0
  · subst z; simp
  · have := log_lt (k := k + 1) (show Sm (k + 1) y from Nat.lt_of_lt_of_le hy (Nat.pow_le_pow_right (by decide) (by omega))) (by omega)
    simp [z]
    intro _
    omega
theorem is_integer_ok (lv : Nat) (i : Int) (m : Sto) : callF W0 (lv + 1) 0 [.dat (.int i)] m = .ok (.vl (.dat (.bl true))) m := by
  rw [c_is_integer]
  refine ru_dat rfl rfl rfl rfl ?_
  simp [d_is_integer, b_is_integer, x_nil, x_cons, x_set, x_setT, x_par, x_ife, x_ret, x_retf, n_lst, n_call, x_newl, x_exp, x_whl, x_for, bi_ok, bi_bad, of_some, lk_dat, lks_nil, lks_cons, do_nil, do_cons, op_some, ob_some, b_add, b_sub, c_lt, c_le, c_gt, c_ge, c_eqS, c_neS, c_eqI, c_neI, c_eqB, c_neB, c_eqT, c_neT, c_eqL, c_neL, c_isB, c_isntB, c_is, c_isnt, eq_int, eq_bl, eq_pair, t_bl, t_int, t_lst, t_tup, l_tup, l_lst, l_scr, l_abs, l_int, l_intB, l_max, l_min, l_tt, l_tl, l_all, l_any, l_repr, s_tup, s_lst, s_scr, i_tt, i_ii, i_ib, i_it, ix0, ix1, ix2, v_var, v_cst, v_glo, v_tup, v_lst, v_lsts, d_nil, d_star, d_one, l_max1, l_min1, l_sum, v_bin, v_neg, v_nt, v_cmp, v_chain, v_and, v_or, v_ite, v_sub, v_rev, v_call, v_blt, v_isi, v_comp, evs, evAnd, evOr, evIfs, evT, evTAnd, evTOr, parS, isiD, tyName]
/-! ### the greatest common divisor -/
theorem gcd_whl (mk : Int → Int → Slots) (f : Slots → Sto → R (Out × Bool)) (m : Sto)
    (hf : ∀ x y : Nat, f (mk x y) m = if y = 0 then .ok (.nx (mk x y), false) m else .ok (.nx (mk y ((x % y : Nat) : Int)), true) m) :
    ∀ (k n x y : Nat), y < 2 ^ k → 2 * k + 1 ≤ n → whlF n f (mk x y) m = .ok (.nx (mk (Nat.gcd x y) 0)) m := by
  intro k
  induction k with
  | zero =>
    intro n x y hy hn
    have e : y = 0 := by omega
    subst e
    obtain ⟨n, rfl⟩ : ∃ j, n = j + 1 := ⟨n - 1, by omega⟩
    unfold whlF
    rw [hf]
    simp [R.bind]
  | succ k ih =>
    intro n x y hy hn
    obtain ⟨n, rfl⟩ : ∃ j, n = j + 2 := ⟨n - 2, by omega⟩
    unfold whlF
    rw [hf]
    by_cases z : y = 0
    · subst z
      simp [R.bind]
    · rw [if_neg z]
      simp only [R.bind]
      unfold whlF
      rw [hf]
      by_cases z2 : x % y = 0
      · rw [if_pos z2]
        simp only [R.bind]
        have e : Nat.gcd x y = y := by rw [Nat.gcd_comm, Nat.gcd_rec, z2, Nat.gcd_zero_left]
        rw [e, z2]
        rfl
      · rw [if_neg z2]
        simp only [R.bind]
        rw [ih n (x % y) (y % (x % y)) ?_ (by omega)]
        · have e : Nat.gcd (x % y) (y % (x % y)) = Nat.gcd x y := by
            rw [Nat.gcd_comm (x % y), ← Nat.gcd_rec, ← Nat.gcd_rec, Nat.gcd_comm]
          rw [e]
        · have h1 : x % y < y := Nat.mod_lt _ (by omega)
          have h2 : y % (x % y) < x % y := Nat.mod_lt _ (by omega)
          have h3 : y % (x % y) + (x % y) ≤ y := by
            have := Nat.div_add_mod y (x % y)
            have d : 1 ≤ y / (x % y) := (Nat.le_div_iff_mul_le (by omega)).mpr (by omega)
            have := Nat.mul_le_mul_left (x % y) d
            omega
          have : 2 ^ (k + 1) = 2 * 2 ^ k := by rw [Nat.pow_succ]; omega
          omega
theorem common_divisor_ok (lv : Nat) (m : Sto) (a b : Int) (hb : Sm 8980 b) : callF W0 (lv + 1) 1 [.dat (.int a), .dat (.int b)] m = .ok (.vl (.dat (.int (Int.gcd a b)))) m := by
  rw [c_common_divisor]
  refine ru_dat rfl rfl rfl rfl ?_
  have g := gcd_whl (fun x y => [some (.dat (.int x)), some (.dat (.int y))]) (whlStep W0 (callF W0 lv) m.length (.cmp .Gt (.var 1) (.cst (.int 0))) [.par [0, 1] [(.var 1), (.bin .Mod (.var 0) (.var 1))]]) m (fun x y => by
    unfold whlStep
    by_cases h : y = 0
    · subst h
      simp [x_nil, x_cons, x_set, x_setT, x_par, x_ife, x_ret, x_retf, n_lst, n_call, x_newl, x_exp, x_whl, x_for, bi_ok, bi_bad, of_some, lk_dat, lks_nil, lks_cons, do_nil, do_cons, op_some, ob_some, b_add, b_sub, c_lt, c_le, c_gt, c_ge, c_eqS, c_neS, c_eqI, c_neI, c_eqB, c_neB, c_eqT, c_neT, c_eqL, c_neL, c_isB, c_isntB, c_is, c_isnt, eq_int, eq_bl, eq_pair, t_bl, t_int, t_lst, t_tup, l_tup, l_lst, l_scr, l_abs, l_int, l_intB, l_max, l_min, l_tt, l_tl, l_all, l_any, l_repr, s_tup, s_lst, s_scr, i_tt, i_ii, i_ib, i_it, ix0, ix1, ix2, v_var, v_cst, v_glo, v_tup, v_lst, v_lsts, d_nil, d_star, d_one, l_max1, l_min1, l_sum, v_bin, v_neg, v_nt, v_cmp, v_chain, v_and, v_or, v_ite, v_sub, v_rev, v_call, v_blt, v_isi, v_comp, evs, evAnd, evOr, evIfs, evT, evTAnd, evTOr, parS]
    · have h' : (y : Int) ≠ 0 := by omega
      have h2 : (0 : Int) < y := by omega
      have h3 : 0 < y := by omega
      simp [x_nil, x_cons, x_set, x_setT, x_par, x_ife, x_ret, x_retf, n_lst, n_call, x_newl, x_exp, x_whl, x_for, bi_ok, bi_bad, of_some, lk_dat, lks_nil, lks_cons, do_nil, do_cons, op_some, ob_some, b_add, b_sub, c_lt, c_le, c_gt, c_ge, c_eqS, c_neS, c_eqI, c_neI, c_eqB, c_neB, c_eqT, c_neT, c_eqL, c_neL, c_isB, c_isntB, c_is, c_isnt, eq_int, eq_bl, eq_pair, t_bl, t_int, t_lst, t_tup, l_tup, l_lst, l_scr, l_abs, l_int, l_intB, l_max, l_min, l_tt, l_tl, l_all, l_any, l_repr, s_tup, s_lst, s_scr, i_tt, i_ii, i_ib, i_it, ix0, ix1, ix2, v_var, v_cst, v_glo, v_tup, v_lst, v_lsts, d_nil, d_star, d_one, l_max1, l_min1, l_sum, v_bin, v_neg, v_nt, v_cmp, v_chain, v_and, v_or, v_ite, v_sub, v_rev, v_call, v_blt, v_isi, v_comp, evs, evAnd, evOr, evIfs, evT, evTAnd, evTOr, parS, b_mod h', h, h2, h3, Int.fmod_eq_emod_of_nonneg]) 8980 whlMost a.natAbs b.natAbs hb (by decide)
  simp [d_common_divisor, b_common_divisor, x_nil, x_cons, x_set, x_setT, x_par, x_ife, x_ret, x_retf, n_lst, n_call, x_newl, x_exp, x_whl, x_for, bi_ok, bi_bad, of_some, lk_dat, lks_nil, lks_cons, do_nil, do_cons, op_some, ob_some, b_add, b_sub, c_lt, c_le, c_gt, c_ge, c_eqS, c_neS, c_eqI, c_neI, c_eqB, c_neB, c_eqT, c_neT, c_eqL, c_neL, c_isB, c_isntB, c_is, c_isnt, eq_int, eq_bl, eq_pair, t_bl, t_int, t_lst, t_tup, l_tup, l_lst, l_scr, l_abs, l_int, l_intB, l_max, l_min, l_tt, l_tl, l_all, l_any, l_repr, s_tup, s_lst, s_scr, i_tt, i_ii, i_ib, i_it, ix0, ix1, ix2, v_var, v_cst, v_glo, v_tup, v_lst, v_lsts, d_nil, d_star, d_one, l_max1, l_min1, l_sum, v_bin, v_neg, v_nt, v_cmp, v_chain, v_and, v_or, v_ite, v_sub, v_rev, v_call, v_blt, v_isi, v_comp, evs, evAnd, evOr, evIfs, evT, evTAnd, evTOr, parS, g]
  rfl
/-! ### fractions -/
def fr (q : Rat) : D := .tup [.int q.num, .int (q.den : Int)]
theorem isnum_comp (lv : Nat) (m : Sto) (d : D) (xs : List D) (hx : ∀ x ∈ xs, ∃ i, x = D.int i) (hz : szOk xs.length = true) (hw : walkD .seq [d] = some xs) :
    evC W0 (callF W0 (lv + 1)) (.nm 1) .seq [.var 0] [] (.call 0 [.var 1]) [some (.dat d), none] m = .ok (xs.map fun _ => D.bl true) m := by
  refine evC_map (vs := [.dat d]) (by simp [x_nil, x_cons, x_set, x_setT, x_par, x_ife, x_ret, x_retf, n_lst, n_call, x_newl, x_exp, x_whl, x_for, bi_ok, bi_bad, of_some, lk_dat, lks_nil, lks_cons, do_nil, do_cons, op_some, ob_some, b_add, b_sub, c_lt, c_le, c_gt, c_ge, c_eqS, c_neS, c_eqI, c_neI, c_eqB, c_neB, c_eqT, c_neT, c_eqL, c_neL, c_isB, c_isntB, c_is, c_isnt, eq_int, eq_bl, eq_pair, t_bl, t_int, t_lst, t_tup, l_tup, l_lst, l_scr, l_abs, l_int, l_intB, l_max, l_min, l_tt, l_tl, l_all, l_any, l_repr, s_tup, s_lst, s_scr, i_tt, i_ii, i_ib, i_it, ix0, ix1, ix2, v_var, v_cst, v_glo, v_tup, v_lst, v_lsts, d_nil, d_star, d_one, l_max1, l_min1, l_sum, v_bin, v_neg, v_nt, v_cmp, v_chain, v_and, v_or, v_ite, v_sub, v_rev, v_call, v_blt, v_isi, v_comp, evs, evAnd, evOr, evIfs, evT, evTAnd, evTOr, parS]) rfl hw hz fun x hxm => ?_
  obtain ⟨i, rfl⟩ := hx x hxm
  refine turn0 (s' := [some (.dat d), some (.dat (.int i))]) rfl ?_
  simp [x_nil, x_cons, x_set, x_setT, x_par, x_ife, x_ret, x_retf, n_lst, n_call, x_newl, x_exp, x_whl, x_for, bi_ok, bi_bad, of_some, lk_dat, lks_nil, lks_cons, do_nil, do_cons, op_some, ob_some, b_add, b_sub, c_lt, c_le, c_gt, c_ge, c_eqS, c_neS, c_eqI, c_neI, c_eqB, c_neB, c_eqT, c_neT, c_eqL, c_neL, c_isB, c_isntB, c_is, c_isnt, eq_int, eq_bl, eq_pair, t_bl, t_int, t_lst, t_tup, l_tup, l_lst, l_scr, l_abs, l_int, l_intB, l_max, l_min, l_tt, l_tl, l_all, l_any, l_repr, s_tup, s_lst, s_scr, i_tt, i_ii, i_ib, i_it, ix0, ix1, ix2, v_var, v_cst, v_glo, v_tup, v_lst, v_lsts, d_nil, d_star, d_one, l_max1, l_min1, l_sum, v_bin, v_neg, v_nt, v_cmp, v_chain, v_and, v_or, v_ite, v_sub, v_rev, v_call, v_blt, v_isi, v_comp, evs, evAnd, evOr, evIfs, evT, evTAnd, evTOr, parS, is_integer_ok]
theorem is_number_ok (lv : Nat) (m : Sto) (q : Rat) (hb : q.den < 2 ^ 8980) : callF W0 (lv + 2) 2 [.dat (fr q)] m = .ok (.vl (.dat (.bl true))) m := by
  rw [c_is_number]
  have h1 : (1 : Int) ≤ q.den := by have := q.den_pos; omega
  have h2 : Int.gcd q.num q.den = 1 := q.reduced
  have hc := isnum_comp lv m (fr q) [.int q.num, .int (q.den : Int)] (by simp) rfl rfl
  have hg := common_divisor_ok lv m q.num q.den (by simpa [Sm] using hb)
  rw [h2] at hg
  unfold fr at hc ⊢
  refine ru_dat rfl rfl rfl rfl ?_
  simp [d_is_number, b_is_number, x_nil, x_cons, x_set, x_setT, x_par, x_ife, x_ret, x_retf, n_lst, n_call, x_newl, x_exp, x_whl, x_for, bi_ok, bi_bad, of_some, lk_dat, lks_nil, lks_cons, do_nil, do_cons, op_some, ob_some, b_add, b_sub, c_lt, c_le, c_gt, c_ge, c_eqS, c_neS, c_eqI, c_neI, c_eqB, c_neB, c_eqT, c_neT, c_eqL, c_neL, c_isB, c_isntB, c_is, c_isnt, eq_int, eq_bl, eq_pair, t_bl, t_int, t_lst, t_tup, l_tup, l_lst, l_scr, l_abs, l_int, l_intB, l_max, l_min, l_tt, l_tl, l_all, l_any, l_repr, s_tup, s_lst, s_scr, i_tt, i_ii, i_ib, i_it, ix0, ix1, ix2, v_var, v_cst, v_glo, v_tup, v_lst, v_lsts, d_nil, d_star, d_one, l_max1, l_min1, l_sum, v_bin, v_neg, v_nt, v_cmp, v_chain, v_and, v_or, v_ite, v_sub, v_rev, v_call, v_blt, v_isi, v_comp, evs, evAnd, evOr, evIfs, evT, evTAnd, evTOr, parS, hc, hg, h1, allD]
theorem div_num {t b : Int} (h : b ≠ 0) : (Rat.divInt t b).num = (b.sign * t).fdiv (Int.gcd t b) := by
  rw [Rat.num_divInt, Int.fdiv_eq_ediv_of_nonneg _ (by omega), Int.gcd_comm]
theorem div_den {t b : Int} (h : b ≠ 0) : ((Rat.divInt t b).den : Int) = (b.natAbs : Int).fdiv (Int.gcd t b) := by
  rw [Rat.den_divInt, if_neg h, Int.fdiv_eq_ediv_of_nonneg _ (by omega), Int.gcd_comm]
  rfl
theorem gcd_le {t b : Int} (h : b ≠ 0) : Int.gcd t b ≤ b.natAbs := Nat.le_of_dvd (by omega) (Int.gcd_dvd_natAbs_right t b)
theorem gcd_ne {t b : Int} (h : b ≠ 0) : (Int.gcd t b : Int) ≠ 0 := by
  have : Int.gcd t b ≠ 0 := fun z => h (Int.gcd_eq_zero_iff.mp z).2
  omega
theorem gcd_sm {k : Nat} {t b : Int} (h : b ≠ 0) (hs : Sm k b) : Sm k (Int.gcd t b) := Nat.lt_of_le_of_lt (by simpa using gcd_le h) hs
theorem sm_neg {k : Nat} {b : Int} (hs : Sm k b) : Sm k (-b) := by
  unfold Sm at *
  omega
theorem reduced_ok (lv : Nat) (m : Sto) (t b : Int) (h : b ≠ 0) (hs : Sm 8980 b) : callF W0 (lv + 2) 3 [.dat (.int t), .dat (.int b)] m = .ok (.vl (.dat (fr (Rat.divInt t b)))) m := by
  rw [c_reduced]
  unfold fr
  rw [div_num h, div_den h]
  refine ru_dat rfl rfl rfl rfl ?_
  have g0 := gcd_ne (t := t) h
  have pl : ∀ x, Builtin.divisionGoesByPylong x (Int.gcd t b) = false := fun x => div_ok (gcd_sm h hs) (by decide)
  by_cases hn : b < 0
  · have e1 : Int.gcd (-t) (-b) = Int.gcd t b := by simp
    have e2 : b.sign * t = -t := by rw [Int.sign_eq_neg_one_of_neg hn]; omega
    have e3 : (b.natAbs : Int) = -b := by omega
    have c := common_divisor_ok lv m (-t) (-b) (sm_neg hs)
    rw [e1] at c
    rw [e2, e3]
    simp [d_reduced, b_reduced, x_nil, x_cons, x_set, x_setT, x_par, x_ife, x_ret, x_retf, n_lst, n_call, x_newl, x_exp, x_whl, x_for, bi_ok, bi_bad, of_some, lk_dat, lks_nil, lks_cons, do_nil, do_cons, op_some, ob_some, b_add, b_sub, c_lt, c_le, c_gt, c_ge, c_eqS, c_neS, c_eqI, c_neI, c_eqB, c_neB, c_eqT, c_neT, c_eqL, c_neL, c_isB, c_isntB, c_is, c_isnt, eq_int, eq_bl, eq_pair, t_bl, t_int, t_lst, t_tup, l_tup, l_lst, l_scr, l_abs, l_int, l_intB, l_max, l_min, l_tt, l_tl, l_all, l_any, l_repr, s_tup, s_lst, s_scr, i_tt, i_ii, i_ib, i_it, ix0, ix1, ix2, v_var, v_cst, v_glo, v_tup, v_lst, v_lsts, d_nil, d_star, d_one, l_max1, l_min1, l_sum, v_bin, v_neg, v_nt, v_cmp, v_chain, v_and, v_or, v_ite, v_sub, v_rev, v_call, v_blt, v_isi, v_comp, evs, evAnd, evOr, evIfs, evT, evTAnd, evTOr, parS, hn, c, b_div g0 (pl _)]
    rfl
  · have e2 : b.sign * t = t := by rw [Int.sign_eq_one_of_pos (by omega)]; omega
    have e3 : (b.natAbs : Int) = b := by omega
    have c := common_divisor_ok lv m t b hs
    rw [e2, e3]
    simp [d_reduced, b_reduced, x_nil, x_cons, x_set, x_setT, x_par, x_ife, x_ret, x_retf, n_lst, n_call, x_newl, x_exp, x_whl, x_for, bi_ok, bi_bad, of_some, lk_dat, lks_nil, lks_cons, do_nil, do_cons, op_some, ob_some, b_add, b_sub, c_lt, c_le, c_gt, c_ge, c_eqS, c_neS, c_eqI, c_neI, c_eqB, c_neB, c_eqT, c_neT, c_eqL, c_neL, c_isB, c_isntB, c_is, c_isnt, eq_int, eq_bl, eq_pair, t_bl, t_int, t_lst, t_tup, l_tup, l_lst, l_scr, l_abs, l_int, l_intB, l_max, l_min, l_tt, l_tl, l_all, l_any, l_repr, s_tup, s_lst, s_scr, i_tt, i_ii, i_ib, i_it, ix0, ix1, ix2, v_var, v_cst, v_glo, v_tup, v_lst, v_lsts, d_nil, d_star, d_one, l_max1, l_min1, l_sum, v_bin, v_neg, v_nt, v_cmp, v_chain, v_and, v_or, v_ite, v_sub, v_rev, v_call, v_blt, v_isi, v_comp, evs, evAnd, evOr, evIfs, evT, evTAnd, evTOr, parS, hn, c, b_div g0 (pl _)]
    rfl
theorem law_fr_ok (lv : Nat) (m : Sto) (t b : Int) (h : b ≠ 0) (hs : Sm 8980 b) (ht : Sm 8980 t) : callF W0 (lv + 1) 29 [.dat (.int t), .dat (.int b)] m = .ok (.vl (.dat (fr (Rat.divInt t b)))) m := by
  rw [c_law_fr]
  unfold fr
  rw [div_num h, div_den h]
  refine ru_dat rfl rfl rfl rfl ?_
  have g0 := gcd_ne (t := t) h
  have pl : ∀ x, Builtin.divisionGoesByPylong x (Int.gcd t b) = false := fun x => div_ok (gcd_sm h hs) (by decide)
  have g := gcd_whl (fun x y => [some (.dat (.int t)), some (.dat (.int b)), some (.dat (.int x)), some (.dat (.int y)), none]) (whlStep W0 (callF W0 lv) m.length (.cmp .Gt (.var 3) (.cst (.int 0))) [.par [2, 3] [(.var 3), (.bin .Mod (.var 2) (.var 3))]]) m (fun x y => by
    unfold whlStep
    by_cases h : y = 0
    · subst h
      simp [x_nil, x_cons, x_set, x_setT, x_par, x_ife, x_ret, x_retf, n_lst, n_call, x_newl, x_exp, x_whl, x_for, bi_ok, bi_bad, of_some, lk_dat, lks_nil, lks_cons, do_nil, do_cons, op_some, ob_some, b_add, b_sub, c_lt, c_le, c_gt, c_ge, c_eqS, c_neS, c_eqI, c_neI, c_eqB, c_neB, c_eqT, c_neT, c_eqL, c_neL, c_isB, c_isntB, c_is, c_isnt, eq_int, eq_bl, eq_pair, t_bl, t_int, t_lst, t_tup, l_tup, l_lst, l_scr, l_abs, l_int, l_intB, l_max, l_min, l_tt, l_tl, l_all, l_any, l_repr, s_tup, s_lst, s_scr, i_tt, i_ii, i_ib, i_it, ix0, ix1, ix2, v_var, v_cst, v_glo, v_tup, v_lst, v_lsts, d_nil, d_star, d_one, l_max1, l_min1, l_sum, v_bin, v_neg, v_nt, v_cmp, v_chain, v_and, v_or, v_ite, v_sub, v_rev, v_call, v_blt, v_isi, v_comp, evs, evAnd, evOr, evIfs, evT, evTAnd, evTOr, parS]
    · have h' : (y : Int) ≠ 0 := by omega
      have h2 : (0 : Int) < y := by omega
      have h3 : 0 < y := by omega
      simp [x_nil, x_cons, x_set, x_setT, x_par, x_ife, x_ret, x_retf, n_lst, n_call, x_newl, x_exp, x_whl, x_for, bi_ok, bi_bad, of_some, lk_dat, lks_nil, lks_cons, do_nil, do_cons, op_some, ob_some, b_add, b_sub, c_lt, c_le, c_gt, c_ge, c_eqS, c_neS, c_eqI, c_neI, c_eqB, c_neB, c_eqT, c_neT, c_eqL, c_neL, c_isB, c_isntB, c_is, c_isnt, eq_int, eq_bl, eq_pair, t_bl, t_int, t_lst, t_tup, l_tup, l_lst, l_scr, l_abs, l_int, l_intB, l_max, l_min, l_tt, l_tl, l_all, l_any, l_repr, s_tup, s_lst, s_scr, i_tt, i_ii, i_ib, i_it, ix0, ix1, ix2, v_var, v_cst, v_glo, v_tup, v_lst, v_lsts, d_nil, d_star, d_one, l_max1, l_min1, l_sum, v_bin, v_neg, v_nt, v_cmp, v_chain, v_and, v_or, v_ite, v_sub, v_rev, v_call, v_blt, v_isi, v_comp, evs, evAnd, evOr, evIfs, evT, evTAnd, evTOr, parS, b_mod h', h, h2, h3, Int.fmod_eq_emod_of_nonneg]) 8980 whlMost t.natAbs b.natAbs hs (by decide)
  have gg : Nat.gcd t.natAbs b.natAbs = Int.gcd t b := rfl
  rw [gg] at g
  by_cases hn : b < 0
  · have e2 : b.sign * t = -t := by rw [Int.sign_eq_neg_one_of_neg hn]; omega
    have e3 : (b.natAbs : Int) = -b := by omega
    have m1 : mulOk (-1) t = true := mul_ok (j := 1) (k := 8980) (by unfold Sm; decide) ht (by decide) (by decide) (by decide)
    have m2 : mulOk (-1) b = true := mul_ok (j := 1) (k := 8980) (by unfold Sm; decide) hs (by decide) (by decide) (by decide)
    have e4 : -1 * t = -t := by omega
    have e5 : -1 * b = -b := by omega
    rw [e2, e3]
    simp [d_law_fr, b_law_fr, x_nil, x_cons, x_set, x_setT, x_par, x_ife, x_ret, x_retf, n_lst, n_call, x_newl, x_exp, x_whl, x_for, bi_ok, bi_bad, of_some, lk_dat, lks_nil, lks_cons, do_nil, do_cons, op_some, ob_some, b_add, b_sub, c_lt, c_le, c_gt, c_ge, c_eqS, c_neS, c_eqI, c_neI, c_eqB, c_neB, c_eqT, c_neT, c_eqL, c_neL, c_isB, c_isntB, c_is, c_isnt, eq_int, eq_bl, eq_pair, t_bl, t_int, t_lst, t_tup, l_tup, l_lst, l_scr, l_abs, l_int, l_intB, l_max, l_min, l_tt, l_tl, l_all, l_any, l_repr, s_tup, s_lst, s_scr, i_tt, i_ii, i_ib, i_it, ix0, ix1, ix2, v_var, v_cst, v_glo, v_tup, v_lst, v_lsts, d_nil, d_star, d_one, l_max1, l_min1, l_sum, v_bin, v_neg, v_nt, v_cmp, v_chain, v_and, v_or, v_ite, v_sub, v_rev, v_call, v_blt, v_isi, v_comp, evs, evAnd, evOr, evIfs, evT, evTAnd, evTOr, parS, hn, g, b_mul m1, b_mul m2, e4, e5, b_div g0 (pl _)]
    rfl
  · have e2 : b.sign * t = t := by rw [Int.sign_eq_one_of_pos (by omega)]; omega
    have e3 : (b.natAbs : Int) = b := by omega
    have m1 : mulOk 1 t = true := mul_ok (j := 1) (k := 8980) (by unfold Sm; decide) ht (by decide) (by decide) (by decide)
    have m2 : mulOk 1 b = true := mul_ok (j := 1) (k := 8980) (by unfold Sm; decide) hs (by decide) (by decide) (by decide)
    rw [e2, e3]
    simp [d_law_fr, b_law_fr, x_nil, x_cons, x_set, x_setT, x_par, x_ife, x_ret, x_retf, n_lst, n_call, x_newl, x_exp, x_whl, x_for, bi_ok, bi_bad, of_some, lk_dat, lks_nil, lks_cons, do_nil, do_cons, op_some, ob_some, b_add, b_sub, c_lt, c_le, c_gt, c_ge, c_eqS, c_neS, c_eqI, c_neI, c_eqB, c_neB, c_eqT, c_neT, c_eqL, c_neL, c_isB, c_isntB, c_is, c_isnt, eq_int, eq_bl, eq_pair, t_bl, t_int, t_lst, t_tup, l_tup, l_lst, l_scr, l_abs, l_int, l_intB, l_max, l_min, l_tt, l_tl, l_all, l_any, l_repr, s_tup, s_lst, s_scr, i_tt, i_ii, i_ib, i_it, ix0, ix1, ix2, v_var, v_cst, v_glo, v_tup, v_lst, v_lsts, d_nil, d_star, d_one, l_max1, l_min1, l_sum, v_bin, v_neg, v_nt, v_cmp, v_chain, v_and, v_or, v_ite, v_sub, v_rev, v_call, v_blt, v_isi, v_comp, evs, evAnd, evOr, evIfs, evT, evTAnd, evTOr, parS, hn, g, b_mul m1, b_mul m2, b_div g0 (pl _)]
    rfl
/-! ### bounds -/
structure Bd (k : Nat) (q : Rat) : Prop where
  num : Sm k q.num
  den : q.den < 2 ^ k
theorem Sm.mono {j k : Nat} {x : Int} (h : Sm j x) (hk : j ≤ k) : Sm k x := Nat.lt_of_lt_of_le h (Nat.pow_le_pow_right (by decide) hk)
theorem Bd.mono {j k : Nat} {q : Rat} (h : Bd j q) (hk : j ≤ k) : Bd k q := ⟨h.num.mono hk, Nat.lt_of_lt_of_le h.den (Nat.pow_le_pow_right (by decide) hk)⟩
theorem Sm.mul {j k : Nat} {x y : Int} (hx : Sm j x) (hy : Sm k y) : Sm (j + k) (x * y) := by
  unfold Sm at *
  rw [Int.natAbs_mul, Nat.pow_add]
  exact Nat.mul_lt_mul'' hx hy
theorem Sm.add {k : Nat} {x y : Int} (hx : Sm k x) (hy : Sm k y) : Sm (k + 1) (x + y) := by
  unfold Sm at *
  have := Int.natAbs_add_le x y
  rw [Nat.pow_succ]
  omega
theorem Sm.sub {k : Nat} {x y : Int} (hx : Sm k x) (hy : Sm k y) : Sm (k + 1) (x - y) := by
  unfold Sm at *
  rw [Nat.pow_succ]
  omega
theorem Sm.nat {k n : Nat} (h : n < 2 ^ k) : Sm k (n : Int) := by simpa [Sm] using h
theorem Bd.denI {k : Nat} {q : Rat} (h : Bd k q) : Sm k (q.den : Int) := .nat h.den
theorem bd_div {k : Nat} {t b : Int} (h : b ≠ 0) (ht : Sm k t) (hb : Sm k b) : Bd k (Rat.divInt t b) := by
  have g : 0 < Int.gcd t b := by have := gcd_ne (t := t) h; omega
  constructor
  · rw [div_num h]
    have e : (b.sign * t).natAbs = t.natAbs := by rw [Int.natAbs_mul, Int.natAbs_sign_of_ne_zero h, Nat.one_mul]
    have d : (Int.gcd t b : Int) ∣ b.sign * t := Int.dvd_mul_of_dvd_right (Int.gcd_dvd_left t b)
    obtain ⟨c, hc⟩ := d
    rw [hc, Int.fdiv_eq_ediv_of_nonneg _ (by omega), Int.mul_ediv_cancel_left _ (by omega)]
    have : c.natAbs ≤ t.natAbs := by
      rw [← e, hc, Int.natAbs_mul]
      exact Nat.le_mul_of_pos_left _ (by simpa using g)
    exact Nat.lt_of_le_of_lt this ht
  · have e := div_den (t := t) h
    rw [Int.fdiv_eq_ediv_of_nonneg _ (by omega)] at e
    have e2 : (Rat.divInt t b).den = b.natAbs / Int.gcd t b := by exact_mod_cast e
    rw [e2]
    exact Nat.lt_of_le_of_lt (Nat.div_le_self _ _) hb
theorem add_div (p q : Rat) : p + q = Rat.divInt (p.num * q.den + q.num * p.den) ((p.den : Int) * q.den) := by
  rw [Rat.add_def', ← Rat.divInt_ofNat]
  rfl
theorem sub_div (p q : Rat) : p - q = Rat.divInt (p.num * q.den - q.num * p.den) ((p.den : Int) * q.den) := by
  rw [Rat.sub_def', ← Rat.divInt_ofNat]
  rfl
theorem mul_div (p q : Rat) : p * q = Rat.divInt (p.num * q.num) ((p.den : Int) * q.den) := by
  rw [Rat.mul_def', ← Rat.divInt_ofNat]
  rfl
theorem dd_ne (p q : Rat) : (p.den : Int) * q.den ≠ 0 := by
  have h1 := p.den_pos
  have h2 := q.den_pos
  exact Int.mul_ne_zero (by omega) (by omega)
theorem div_div (p q : Rat) (h : q.num ≠ 0) : p / q = Rat.divInt (p.num * q.den) ((p.den : Int) * q.num) := by
  have e1 : q⁻¹ = Rat.divInt q.den q.num := Rat.inv_def q
  rw [Rat.div_def, e1]
  conv => lhs; lhs; rw [← Rat.num_divInt_den p]
  rw [Rat.divInt_mul_divInt]
theorem bd_add {k : Nat} {p q : Rat} (hp : Bd k p) (hq : Bd k q) : Bd (2 * k + 1) (p + q) := by
  rw [add_div]
  exact bd_div (dd_ne p q) ((((hp.num.mul hq.denI).mono (by omega)).add ((hq.num.mul hp.denI).mono (by omega))).mono (by omega : (2 * k) + 1 ≤ 2 * k + 1)) ((hp.denI.mul hq.denI).mono (by omega))
theorem bd_sub {k : Nat} {p q : Rat} (hp : Bd k p) (hq : Bd k q) : Bd (2 * k + 1) (p - q) := by
  rw [sub_div]
  exact bd_div (dd_ne p q) ((((hp.num.mul hq.denI).mono (by omega)).sub ((hq.num.mul hp.denI).mono (by omega))).mono (by omega : (2 * k) + 1 ≤ 2 * k + 1)) ((hp.denI.mul hq.denI).mono (by omega))
theorem bd_mul {j k : Nat} {p q : Rat} (hp : Bd j p) (hq : Bd k q) : Bd (j + k) (p * q) := by
  rw [mul_div]
  exact bd_div (dd_ne p q) (hp.num.mul hq.num) (hp.denI.mul hq.denI)
theorem bd_quo {k : Nat} {p q : Rat} (h : q.num ≠ 0) (hp : Bd k p) (hq : Bd k q) : Bd (2 * k) (p / q) := by
  rw [div_div p q h]
  have h1 := p.den_pos
  exact bd_div (Int.mul_ne_zero (by omega) h) ((hp.num.mul hq.denI).mono (by omega)) ((hp.denI.mul hq.num).mono (by omega))
theorem ml {k : Nat} {x y : Int} (hx : Sm k x) (hy : Sm k y) (h : 1 ≤ k ∧ k ≤ 8980) : mulOk x y = true := mul_ok hx hy (by omega) (by omega) (by omega)
/-! ### the four operations, the program's and the law's -/
theorem added_ok (lv k : Nat) (m : Sto) (p q : Rat) (hp : Bd k p) (hq : Bd k q) (hk : 1 ≤ k ∧ 2 * k + 1 ≤ 8980) : callF W0 (lv + 3) 5 [.dat (fr p), .dat (fr q)] m = .ok (.vl (.dat (fr (p + q)))) m := by
  rw [c_added]
  refine ru_dat rfl rfl rfl rfl ?_
  have hk' : 1 ≤ k ∧ k ≤ 8980 := by omega
  have m1 := ml hp.num hq.denI hk'
  have m2 := ml hq.num hp.denI hk'
  have m3 := ml hp.denI hq.denI hk'
  have r := reduced_ok lv m (p.num * q.den + q.num * p.den) ((p.den : Int) * q.den) (dd_ne p q) ((hp.denI.mul hq.denI).mono (by omega))
  rw [← add_div] at r
  unfold fr at r ⊢
  by_cases h1 : p.den = q.den
  · by_cases h2 : q.den = 1
    · have e1 : (p + q).num = p.num + q.num := by rw [Rat.add_def', h1, h2, Rat.num_mkRat]; simp
      have e2 : (p + q).den = 1 := by rw [Rat.add_def', h1, h2, Rat.den_mkRat]; simp
      simp [d_added, b_added, x_nil, x_cons, x_set, x_setT, x_par, x_ife, x_ret, x_retf, n_lst, n_call, x_newl, x_exp, x_whl, x_for, bi_ok, bi_bad, of_some, lk_dat, lks_nil, lks_cons, do_nil, do_cons, op_some, ob_some, b_add, b_sub, c_lt, c_le, c_gt, c_ge, c_eqS, c_neS, c_eqI, c_neI, c_eqB, c_neB, c_eqT, c_neT, c_eqL, c_neL, c_isB, c_isntB, c_is, c_isnt, eq_int, eq_bl, eq_pair, t_bl, t_int, t_lst, t_tup, l_tup, l_lst, l_scr, l_abs, l_int, l_intB, l_max, l_min, l_tt, l_tl, l_all, l_any, l_repr, s_tup, s_lst, s_scr, i_tt, i_ii, i_ib, i_it, ix0, ix1, ix2, v_var, v_cst, v_glo, v_tup, v_lst, v_lsts, d_nil, d_star, d_one, l_max1, l_min1, l_sum, v_bin, v_neg, v_nt, v_cmp, v_chain, v_and, v_or, v_ite, v_sub, v_rev, v_call, v_blt, v_isi, v_comp, evs, evAnd, evOr, evIfs, evT, evTAnd, evTOr, parS, h1, h2, e1, e2]
      rfl
    · have h2' : (q.den : Int) ≠ 1 := by omega
      rw [h1] at r m2 m3
      simp [d_added, b_added, x_nil, x_cons, x_set, x_setT, x_par, x_ife, x_ret, x_retf, n_lst, n_call, x_newl, x_exp, x_whl, x_for, bi_ok, bi_bad, of_some, lk_dat, lks_nil, lks_cons, do_nil, do_cons, op_some, ob_some, b_add, b_sub, c_lt, c_le, c_gt, c_ge, c_eqS, c_neS, c_eqI, c_neI, c_eqB, c_neB, c_eqT, c_neT, c_eqL, c_neL, c_isB, c_isntB, c_is, c_isnt, eq_int, eq_bl, eq_pair, t_bl, t_int, t_lst, t_tup, l_tup, l_lst, l_scr, l_abs, l_int, l_intB, l_max, l_min, l_tt, l_tl, l_all, l_any, l_repr, s_tup, s_lst, s_scr, i_tt, i_ii, i_ib, i_it, ix0, ix1, ix2, v_var, v_cst, v_glo, v_tup, v_lst, v_lsts, d_nil, d_star, d_one, l_max1, l_min1, l_sum, v_bin, v_neg, v_nt, v_cmp, v_chain, v_and, v_or, v_ite, v_sub, v_rev, v_call, v_blt, v_isi, v_comp, evs, evAnd, evOr, evIfs, evT, evTAnd, evTOr, parS, h1, h2, h2', b_mul m1, b_mul m2, b_mul m3, r]
  · have h1' : (p.den : Int) ≠ q.den := by omega
    simp [d_added, b_added, x_nil, x_cons, x_set, x_setT, x_par, x_ife, x_ret, x_retf, n_lst, n_call, x_newl, x_exp, x_whl, x_for, bi_ok, bi_bad, of_some, lk_dat, lks_nil, lks_cons, do_nil, do_cons, op_some, ob_some, b_add, b_sub, c_lt, c_le, c_gt, c_ge, c_eqS, c_neS, c_eqI, c_neI, c_eqB, c_neB, c_eqT, c_neT, c_eqL, c_neL, c_isB, c_isntB, c_is, c_isnt, eq_int, eq_bl, eq_pair, t_bl, t_int, t_lst, t_tup, l_tup, l_lst, l_scr, l_abs, l_int, l_intB, l_max, l_min, l_tt, l_tl, l_all, l_any, l_repr, s_tup, s_lst, s_scr, i_tt, i_ii, i_ib, i_it, ix0, ix1, ix2, v_var, v_cst, v_glo, v_tup, v_lst, v_lsts, d_nil, d_star, d_one, l_max1, l_min1, l_sum, v_bin, v_neg, v_nt, v_cmp, v_chain, v_and, v_or, v_ite, v_sub, v_rev, v_call, v_blt, v_isi, v_comp, evs, evAnd, evOr, evIfs, evT, evTAnd, evTOr, parS, h1, h1', b_mul m1, b_mul m2, b_mul m3, r]
theorem multiplied_ok (lv k : Nat) (m : Sto) (p q : Rat) (hp : Bd k p) (hq : Bd k q) (hk : 1 ≤ k ∧ 2 * k + 1 ≤ 8980) : callF W0 (lv + 3) 6 [.dat (fr p), .dat (fr q)] m = .ok (.vl (.dat (fr (p * q)))) m := by
  rw [c_multiplied]
  refine ru_dat rfl rfl rfl rfl ?_
  have hk' : 1 ≤ k ∧ k ≤ 8980 := by omega
  have m1 := ml hp.num hq.num hk'
  have m3 := ml hp.denI hq.denI hk'
  have r := reduced_ok lv m (p.num * q.num) ((p.den : Int) * q.den) (dd_ne p q) ((hp.denI.mul hq.denI).mono (by omega))
  rw [← mul_div] at r
  unfold fr at r ⊢
  by_cases h1 : p.den = q.den
  · by_cases h2 : q.den = 1
    · have e1 : (p * q).num = p.num * q.num := by rw [Rat.mul_def', h1, h2, Rat.num_mkRat]; simp
      have e2 : (p * q).den = 1 := by rw [Rat.mul_def', h1, h2, Rat.den_mkRat]; simp
      simp [d_multiplied, b_multiplied, x_nil, x_cons, x_set, x_setT, x_par, x_ife, x_ret, x_retf, n_lst, n_call, x_newl, x_exp, x_whl, x_for, bi_ok, bi_bad, of_some, lk_dat, lks_nil, lks_cons, do_nil, do_cons, op_some, ob_some, b_add, b_sub, c_lt, c_le, c_gt, c_ge, c_eqS, c_neS, c_eqI, c_neI, c_eqB, c_neB, c_eqT, c_neT, c_eqL, c_neL, c_isB, c_isntB, c_is, c_isnt, eq_int, eq_bl, eq_pair, t_bl, t_int, t_lst, t_tup, l_tup, l_lst, l_scr, l_abs, l_int, l_intB, l_max, l_min, l_tt, l_tl, l_all, l_any, l_repr, s_tup, s_lst, s_scr, i_tt, i_ii, i_ib, i_it, ix0, ix1, ix2, v_var, v_cst, v_glo, v_tup, v_lst, v_lsts, d_nil, d_star, d_one, l_max1, l_min1, l_sum, v_bin, v_neg, v_nt, v_cmp, v_chain, v_and, v_or, v_ite, v_sub, v_rev, v_call, v_blt, v_isi, v_comp, evs, evAnd, evOr, evIfs, evT, evTAnd, evTOr, parS, h1, h2, e1, e2, b_mul m1]
      rfl
    · have h2' : (q.den : Int) ≠ 1 := by omega
      rw [h1] at r m3
      simp [d_multiplied, b_multiplied, x_nil, x_cons, x_set, x_setT, x_par, x_ife, x_ret, x_retf, n_lst, n_call, x_newl, x_exp, x_whl, x_for, bi_ok, bi_bad, of_some, lk_dat, lks_nil, lks_cons, do_nil, do_cons, op_some, ob_some, b_add, b_sub, c_lt, c_le, c_gt, c_ge, c_eqS, c_neS, c_eqI, c_neI, c_eqB, c_neB, c_eqT, c_neT, c_eqL, c_neL, c_isB, c_isntB, c_is, c_isnt, eq_int, eq_bl, eq_pair, t_bl, t_int, t_lst, t_tup, l_tup, l_lst, l_scr, l_abs, l_int, l_intB, l_max, l_min, l_tt, l_tl, l_all, l_any, l_repr, s_tup, s_lst, s_scr, i_tt, i_ii, i_ib, i_it, ix0, ix1, ix2, v_var, v_cst, v_glo, v_tup, v_lst, v_lsts, d_nil, d_star, d_one, l_max1, l_min1, l_sum, v_bin, v_neg, v_nt, v_cmp, v_chain, v_and, v_or, v_ite, v_sub, v_rev, v_call, v_blt, v_isi, v_comp, evs, evAnd, evOr, evIfs, evT, evTAnd, evTOr, parS, h1, h2, h2', b_mul m1, b_mul m3, r]
  · have h1' : (p.den : Int) ≠ q.den := by omega
    simp [d_multiplied, b_multiplied, x_nil, x_cons, x_set, x_setT, x_par, x_ife, x_ret, x_retf, n_lst, n_call, x_newl, x_exp, x_whl, x_for, bi_ok, bi_bad, of_some, lk_dat, lks_nil, lks_cons, do_nil, do_cons, op_some, ob_some, b_add, b_sub, c_lt, c_le, c_gt, c_ge, c_eqS, c_neS, c_eqI, c_neI, c_eqB, c_neB, c_eqT, c_neT, c_eqL, c_neL, c_isB, c_isntB, c_is, c_isnt, eq_int, eq_bl, eq_pair, t_bl, t_int, t_lst, t_tup, l_tup, l_lst, l_scr, l_abs, l_int, l_intB, l_max, l_min, l_tt, l_tl, l_all, l_any, l_repr, s_tup, s_lst, s_scr, i_tt, i_ii, i_ib, i_it, ix0, ix1, ix2, v_var, v_cst, v_glo, v_tup, v_lst, v_lsts, d_nil, d_star, d_one, l_max1, l_min1, l_sum, v_bin, v_neg, v_nt, v_cmp, v_chain, v_and, v_or, v_ite, v_sub, v_rev, v_call, v_blt, v_isi, v_comp, evs, evAnd, evOr, evIfs, evT, evTAnd, evTOr, parS, h1, h1', b_mul m1, b_mul m3, r]
theorem opposite_ok (lv : Nat) (m : Sto) (q : Rat) : callF W0 (lv + 1) 7 [.dat (fr q)] m = .ok (.vl (.dat (fr (-q)))) m := by
  rw [c_opposite]
  refine ru_dat rfl rfl rfl rfl ?_
  unfold fr
  simp [d_opposite, b_opposite, x_nil, x_cons, x_set, x_setT, x_par, x_ife, x_ret, x_retf, n_lst, n_call, x_newl, x_exp, x_whl, x_for, bi_ok, bi_bad, of_some, lk_dat, lks_nil, lks_cons, do_nil, do_cons, op_some, ob_some, b_add, b_sub, c_lt, c_le, c_gt, c_ge, c_eqS, c_neS, c_eqI, c_neI, c_eqB, c_neB, c_eqT, c_neT, c_eqL, c_neL, c_isB, c_isntB, c_is, c_isnt, eq_int, eq_bl, eq_pair, t_bl, t_int, t_lst, t_tup, l_tup, l_lst, l_scr, l_abs, l_int, l_intB, l_max, l_min, l_tt, l_tl, l_all, l_any, l_repr, s_tup, s_lst, s_scr, i_tt, i_ii, i_ib, i_it, ix0, ix1, ix2, v_var, v_cst, v_glo, v_tup, v_lst, v_lsts, d_nil, d_star, d_one, l_max1, l_min1, l_sum, v_bin, v_neg, v_nt, v_cmp, v_chain, v_and, v_or, v_ite, v_sub, v_rev, v_call, v_blt, v_isi, v_comp, evs, evAnd, evOr, evIfs, evT, evTAnd, evTOr, parS]
  rfl
theorem divided_ok (lv k : Nat) (m : Sto) (p q : Rat) (h : q.num ≠ 0) (hp : Bd k p) (hq : Bd k q) (hk : 1 ≤ k ∧ 2 * k + 1 ≤ 8980) : callF W0 (lv + 3) 8 [.dat (fr p), .dat (fr q)] m = .ok (.vl (.dat (fr (p / q)))) m := by
  rw [c_divided]
  refine ru_dat rfl rfl rfl rfl ?_
  have hk' : 1 ≤ k ∧ k ≤ 8980 := by omega
  have m1 := ml hp.num hq.denI hk'
  have m3 := ml hp.denI hq.num hk'
  have h1 := p.den_pos
  have r := reduced_ok lv m (p.num * q.den) ((p.den : Int) * q.num) (Int.mul_ne_zero (by omega) h) ((hp.denI.mul hq.num).mono (by omega))
  rw [← div_div p q h] at r
  unfold fr at r ⊢
  simp [d_divided, b_divided, x_nil, x_cons, x_set, x_setT, x_par, x_ife, x_ret, x_retf, n_lst, n_call, x_newl, x_exp, x_whl, x_for, bi_ok, bi_bad, of_some, lk_dat, lks_nil, lks_cons, do_nil, do_cons, op_some, ob_some, b_add, b_sub, c_lt, c_le, c_gt, c_ge, c_eqS, c_neS, c_eqI, c_neI, c_eqB, c_neB, c_eqT, c_neT, c_eqL, c_neL, c_isB, c_isntB, c_is, c_isnt, eq_int, eq_bl, eq_pair, t_bl, t_int, t_lst, t_tup, l_tup, l_lst, l_scr, l_abs, l_int, l_intB, l_max, l_min, l_tt, l_tl, l_all, l_any, l_repr, s_tup, s_lst, s_scr, i_tt, i_ii, i_ib, i_it, ix0, ix1, ix2, v_var, v_cst, v_glo, v_tup, v_lst, v_lsts, d_nil, d_star, d_one, l_max1, l_min1, l_sum, v_bin, v_neg, v_nt, v_cmp, v_chain, v_and, v_or, v_ite, v_sub, v_rev, v_call, v_blt, v_isi, v_comp, evs, evAnd, evOr, evIfs, evT, evTAnd, evTOr, parS, b_mul m1, b_mul m3, r]
theorem law_plus_ok (lv k : Nat) (m : Sto) (p q : Rat) (hp : Bd k p) (hq : Bd k q) (hk : 1 ≤ k ∧ 2 * k + 1 ≤ 8980) : callF W0 (lv + 2) 30 [.dat (fr p), .dat (fr q)] m = .ok (.vl (.dat (fr (p + q)))) m := by
  rw [c_law_plus]
  refine ru_dat rfl rfl rfl rfl ?_
  have hk' : 1 ≤ k ∧ k ≤ 8980 := by omega
  have m1 := ml hp.num hq.denI hk'
  have m2 := ml hq.num hp.denI hk'
  have m3 := ml hp.denI hq.denI hk'
  have r := law_fr_ok lv m (p.num * q.den + q.num * p.den) ((p.den : Int) * q.den) (dd_ne p q) ((hp.denI.mul hq.denI).mono (by omega)) ((((hp.num.mul hq.denI).mono (by omega)).add ((hq.num.mul hp.denI).mono (by omega))).mono (by omega : (2 * k) + 1 ≤ 8980))
  rw [← add_div] at r
  unfold fr at r ⊢
  simp [d_law_plus, b_law_plus, x_nil, x_cons, x_set, x_setT, x_par, x_ife, x_ret, x_retf, n_lst, n_call, x_newl, x_exp, x_whl, x_for, bi_ok, bi_bad, of_some, lk_dat, lks_nil, lks_cons, do_nil, do_cons, op_some, ob_some, b_add, b_sub, c_lt, c_le, c_gt, c_ge, c_eqS, c_neS, c_eqI, c_neI, c_eqB, c_neB, c_eqT, c_neT, c_eqL, c_neL, c_isB, c_isntB, c_is, c_isnt, eq_int, eq_bl, eq_pair, t_bl, t_int, t_lst, t_tup, l_tup, l_lst, l_scr, l_abs, l_int, l_intB, l_max, l_min, l_tt, l_tl, l_all, l_any, l_repr, s_tup, s_lst, s_scr, i_tt, i_ii, i_ib, i_it, ix0, ix1, ix2, v_var, v_cst, v_glo, v_tup, v_lst, v_lsts, d_nil, d_star, d_one, l_max1, l_min1, l_sum, v_bin, v_neg, v_nt, v_cmp, v_chain, v_and, v_or, v_ite, v_sub, v_rev, v_call, v_blt, v_isi, v_comp, evs, evAnd, evOr, evIfs, evT, evTAnd, evTOr, parS, b_mul m1, b_mul m2, b_mul m3, r]
theorem law_times_ok (lv k : Nat) (m : Sto) (p q : Rat) (hp : Bd k p) (hq : Bd k q) (hk : 1 ≤ k ∧ 2 * k + 1 ≤ 8980) : callF W0 (lv + 2) 31 [.dat (fr p), .dat (fr q)] m = .ok (.vl (.dat (fr (p * q)))) m := by
  rw [c_law_times]
  refine ru_dat rfl rfl rfl rfl ?_
  have hk' : 1 ≤ k ∧ k ≤ 8980 := by omega
  have m1 := ml hp.num hq.num hk'
  have m3 := ml hp.denI hq.denI hk'
  have r := law_fr_ok lv m (p.num * q.num) ((p.den : Int) * q.den) (dd_ne p q) ((hp.denI.mul hq.denI).mono (by omega)) ((hp.num.mul hq.num).mono (by omega))
  rw [← mul_div] at r
  unfold fr at r ⊢
  simp [d_law_times, b_law_times, x_nil, x_cons, x_set, x_setT, x_par, x_ife, x_ret, x_retf, n_lst, n_call, x_newl, x_exp, x_whl, x_for, bi_ok, bi_bad, of_some, lk_dat, lks_nil, lks_cons, do_nil, do_cons, op_some, ob_some, b_add, b_sub, c_lt, c_le, c_gt, c_ge, c_eqS, c_neS, c_eqI, c_neI, c_eqB, c_neB, c_eqT, c_neT, c_eqL, c_neL, c_isB, c_isntB, c_is, c_isnt, eq_int, eq_bl, eq_pair, t_bl, t_int, t_lst, t_tup, l_tup, l_lst, l_scr, l_abs, l_int, l_intB, l_max, l_min, l_tt, l_tl, l_all, l_any, l_repr, s_tup, s_lst, s_scr, i_tt, i_ii, i_ib, i_it, ix0, ix1, ix2, v_var, v_cst, v_glo, v_tup, v_lst, v_lsts, d_nil, d_star, d_one, l_max1, l_min1, l_sum, v_bin, v_neg, v_nt, v_cmp, v_chain, v_and, v_or, v_ite, v_sub, v_rev, v_call, v_blt, v_isi, v_comp, evs, evAnd, evOr, evIfs, evT, evTAnd, evTOr, parS, b_mul m1, b_mul m3, r]
theorem require_ok (lv : Nat) (m : Sto) (q : Rat) (h : q.den < 2 ^ 8980) : callF W0 (lv + 3) 4 [.dat (fr q)] m = .ok (.vl (.dat .non)) m := by
  rw [c_require_number]
  refine ru_non (s' := [some (.dat (fr q))]) rfl rfl rfl rfl ?_
  simp [d_require_number, b_require_number, x_nil, x_cons, x_set, x_setT, x_par, x_ife, x_ret, x_retf, n_lst, n_call, x_newl, x_exp, x_whl, x_for, bi_ok, bi_bad, of_some, lk_dat, lks_nil, lks_cons, do_nil, do_cons, op_some, ob_some, b_add, b_sub, c_lt, c_le, c_gt, c_ge, c_eqS, c_neS, c_eqI, c_neI, c_eqB, c_neB, c_eqT, c_neT, c_eqL, c_neL, c_isB, c_isntB, c_is, c_isnt, eq_int, eq_bl, eq_pair, t_bl, t_int, t_lst, t_tup, l_tup, l_lst, l_scr, l_abs, l_int, l_intB, l_max, l_min, l_tt, l_tl, l_all, l_any, l_repr, s_tup, s_lst, s_scr, i_tt, i_ii, i_ib, i_it, ix0, ix1, ix2, v_var, v_cst, v_glo, v_tup, v_lst, v_lsts, d_nil, d_star, d_one, l_max1, l_min1, l_sum, v_bin, v_neg, v_nt, v_cmp, v_chain, v_and, v_or, v_ite, v_sub, v_rev, v_call, v_blt, v_isi, v_comp, evs, evAnd, evOr, evIfs, evT, evTAnd, evTOr, parS, is_number_ok lv m q h]
theorem Bd.dn {k : Nat} {q : Rat} (h : Bd k q) (hk : k ≤ 8980) : q.den < 2 ^ 8980 := Nat.lt_of_lt_of_le h.den (Nat.pow_le_pow_right (by decide) hk)
theorem Bd.neg {k : Nat} {q : Rat} (h : Bd k q) : Bd k (-q) := ⟨sm_neg h.num, h.den⟩
theorem eq_fr (p q : Rat) : eqD (fr p) (fr q) = some (decide (p = q)) := by
  unfold fr
  rw [eq_pair]
  congr 1
  rw [decide_eq_decide]
  constructor
  · rintro ⟨h1, h2⟩
    exact Rat.ext h1 (by omega)
  · rintro rfl
    exact ⟨rfl, rfl⟩
theorem fr0 : fr 0 = .tup [.int 0, .int 1] := rfl
theorem fr1 : fr 1 = .tup [.int 1, .int 1] := rfl
theorem over_ok (lv k : Nat) (m : Sto) (p q : Rat) (h : q ≠ 0) (hp : Bd k p) (hq : Bd k q) (hk : 1 ≤ k ∧ 2 * k + 1 ≤ 8980) : callF W0 (lv + 4) 9 [.dat (fr p), .dat (fr q)] m = .ok (.vl (.dat (fr (p / q)))) m := by
  rw [c_over]
  refine ru_dat rfl rfl rfl rfl ?_
  have hn : q.num ≠ 0 := fun z => h (Rat.num_eq_zero.mp z)
  have e : cmpD .Eq (fr q) (.tup [.int 0, .int 1]) = some false := by
    rw [← fr0]
    show eqD (fr q) (fr 0) = _
    rw [eq_fr]
    simp [h]
  have c1 : W0.con[0]? = some (("NOUGHT" : Str), D.tup [D.int 0, D.int 1]) := rfl
  simp [d_over, b_over, x_nil, x_cons, x_set, x_setT, x_par, x_ife, x_ret, x_retf, n_lst, n_call, x_newl, x_exp, x_whl, x_for, bi_ok, bi_bad, of_some, lk_dat, lks_nil, lks_cons, do_nil, do_cons, op_some, ob_some, b_add, b_sub, c_lt, c_le, c_gt, c_ge, c_eqS, c_neS, c_eqI, c_neI, c_eqB, c_neB, c_eqT, c_neT, c_eqL, c_neL, c_isB, c_isntB, c_is, c_isnt, eq_int, eq_bl, eq_pair, t_bl, t_int, t_lst, t_tup, l_tup, l_lst, l_scr, l_abs, l_int, l_intB, l_max, l_min, l_tt, l_tl, l_all, l_any, l_repr, s_tup, s_lst, s_scr, i_tt, i_ii, i_ib, i_it, ix0, ix1, ix2, v_var, v_cst, v_glo, v_tup, v_lst, v_lsts, d_nil, d_star, d_one, l_max1, l_min1, l_sum, v_bin, v_neg, v_nt, v_cmp, v_chain, v_and, v_or, v_ite, v_sub, v_rev, v_call, v_blt, v_isi, v_comp, evs, evAnd, evOr, evIfs, evT, evTAnd, evTOr, parS, require_ok lv m p (hp.dn (by omega)), require_ok lv m q (hq.dn (by omega)), divided_ok lv k m p q hn hp hq hk, e, c1]
/-! ### sums and powers -/
def sumR : List Rat → Rat → Rat
  | [], a => a
  | q :: r, a => sumR r (a + q)
/-- the bound of a sum of fractions of bound k, from an accumulator of bound j -/
theorem bd_add2 {j k : Nat} {p q : Rat} (hp : Bd j p) (hq : Bd k q) : Bd (j + k + 1) (p + q) := by
  rw [add_div]
  exact bd_div (dd_ne p q) (((hp.num.mul hq.denI)).add ((hq.num.mul hp.denI).mono (by omega))) ((hp.denI.mul hq.denI).mono (by omega))
theorem bd_pow {k : Nat} {q : Rat} (h : Bd k q) : ∀ j : Nat, Bd (k * j + 1) (q ^ j)
  | 0 => by
    rw [Rat.pow_zero]
    exact ⟨by unfold Sm; simp, by simp⟩
  | j + 1 => by
    rw [Rat.pow_succ]
    exact (bd_mul (bd_pow h j) h).mono (by rw [Nat.mul_succ]; omega)
theorem rng_len (lo : Int) (n : Nat) : (rngD lo n).length = n := by simp [rngD]
/-! ### the dice -/
def dmr (rs : Sto) (a b c : Int) : Sto := .lst [.int a, .int b, .int c] :: rs
variable {rs : Sto}
structure DB (a b c : Int) (B : Nat) : Prop where
  a0 : 0 ≤ a
  a1 : a < 2 ^ 1100
  b0 : 0 ≤ b
  b1 : b < 2 ^ 80
  c0 : 0 ≤ c
  c1 : c ≤ B
def Dm (rs m : Sto) (B : Nat) : Prop := ∃ a b c, m = dmr rs a b c ∧ DB a b c B
theorem Dm.mono {m : Sto} {B B' : Nat} (h : Dm rs m B) (hb : B ≤ B') : Dm rs m B' := let ⟨a, b, c, e, d⟩ := h; ⟨a, b, c, e, ⟨d.a0, d.a1, d.b0, d.b1, d.c0, by have := d.c1; omega⟩⟩
theorem Dm.len {m : Sto} {B : Nat} (h : Dm rs m B) : m.length = rs.length + 1 := by obtain ⟨a, b, c, rfl, _⟩ := h; rfl
theorem lk_dm (a b c : Int) : look (dmr rs a b c) (.loc 0) = some (.lst [.int a, .int b, .int c]) := rfl
theorem xs_dm0 {W : Wd} {C : Cal} {B : Nat} {s : Slots} {e : Ex} {a b c x a' c' : Int} (hl : locAt s 0 = some 0) (h : ev W C e s (dmr rs a b c) = .ok (.dat (.int x)) (dmr rs a' b c')) : exS W C B (.sset 0 (.cst (.int 0)) e) s (dmr rs a b c) = .ok (.nx s) (dmr rs x b c') := by
  simp only [exS, hl, h, bi_ok]
  rfl
theorem xs_dm2 {W : Wd} {C : Cal} {B : Nat} {s : Slots} {e : Ex} {a b c x a' c' : Int} (hl : locAt s 0 = some 0) (h : ev W C e s (dmr rs a b c) = .ok (.dat (.int x)) (dmr rs a' b c')) : exS W C B (.sset 0 (.cst (.int 2)) e) s (dmr rs a b c) = .ok (.nx s) (dmr rs a' b x) := by
  simp only [exS, hl, h, bi_ok]
  rfl
theorem roll_ok (lv B : Nat) (m : Sto) (n : Int) (hm : Dm rs m B) (hB : B + 1 ≤ 2 ^ 60) (h1 : 1 ≤ n) (h2 : n < 2 ^ 100) :
    ∃ r m', callF W0 (lv + 1) 27 [.loc 0, .dat (.int n)] m = .ok (.vl (.dat (.int r))) m' ∧ 0 ≤ r ∧ r < n ∧ Dm rs m' (B + 1) := by
  obtain ⟨a, b, c, rfl, d⟩ := hm
  have hn : n ≠ 0 := by omega
  have smn : Sm 8980 n := by
    unfold Sm
    have : n.natAbs < 2 ^ 100 := by omega
    exact Nat.lt_of_lt_of_le this (Nat.pow_le_pow_right (by decide) (by decide))
  by_cases ha : 0 < a
  · refine ⟨a.fmod n, dmr rs (a.fdiv n) b c, ?_, ?_, ?_, _, _, _, rfl, ?_⟩
    · rw [c_law_roll]
      refine ru_dat rfl rfl rfl rfl ?_
      have x0 : exS W0 (callF W0 lv) (dmr rs a b c).length (.sset 0 (.cst (.int 0)) (.bin .FloorDiv (.sub (.var 0) (.cst (.int 0))) (.var 1))) [some (.loc 0), some (.dat (.int n)), some (.dat (.int (a.fmod n))), none, none] (dmr rs a b c) = .ok (.nx [some (.loc 0), some (.dat (.int n)), some (.dat (.int (a.fmod n))), none, none]) (dmr rs (a.fdiv n) b c) :=
        xs_dm0 rfl (by simp [x_nil, x_cons, x_set, x_setT, x_par, x_ife, x_ret, x_retf, n_lst, n_call, x_newl, x_exp, x_whl, x_for, bi_ok, bi_bad, of_some, lk_dat, lks_nil, lks_cons, do_nil, do_cons, op_some, ob_some, b_add, b_sub, c_lt, c_le, c_gt, c_ge, c_eqS, c_neS, c_eqI, c_neI, c_eqB, c_neB, c_eqT, c_neT, c_eqL, c_neL, c_isB, c_isntB, c_is, c_isnt, eq_int, eq_bl, eq_pair, t_bl, t_int, t_lst, t_tup, l_tup, l_lst, l_scr, l_abs, l_int, l_intB, l_max, l_min, l_tt, l_tl, l_all, l_any, l_repr, s_tup, s_lst, s_scr, i_tt, i_ii, i_ib, i_it, ix0, ix1, ix2, v_var, v_cst, v_glo, v_tup, v_lst, v_lsts, d_nil, d_star, d_one, l_max1, l_min1, l_sum, v_bin, v_neg, v_nt, v_cmp, v_chain, v_and, v_or, v_ite, v_sub, v_rev, v_call, v_blt, v_isi, v_comp, evs, evAnd, evOr, evIfs, evT, evTAnd, evTOr, parS, lk_dm, b_div hn (div_ok smn (by decide))]; rfl)
      simp [d_law_roll, b_law_roll, x_nil, x_cons, x_set, x_setT, x_par, x_ife, x_ret, x_retf, n_lst, n_call, x_newl, x_exp, x_whl, x_for, bi_ok, bi_bad, of_some, lk_dat, lks_nil, lks_cons, do_nil, do_cons, op_some, ob_some, b_add, b_sub, c_lt, c_le, c_gt, c_ge, c_eqS, c_neS, c_eqI, c_neI, c_eqB, c_neB, c_eqT, c_neT, c_eqL, c_neL, c_isB, c_isntB, c_is, c_isnt, eq_int, eq_bl, eq_pair, t_bl, t_int, t_lst, t_tup, l_tup, l_lst, l_scr, l_abs, l_int, l_intB, l_max, l_min, l_tt, l_tl, l_all, l_any, l_repr, s_tup, s_lst, s_scr, i_tt, i_ii, i_ib, i_it, ix0, ix1, ix2, v_var, v_cst, v_glo, v_tup, v_lst, v_lsts, d_nil, d_star, d_one, l_max1, l_min1, l_sum, v_bin, v_neg, v_nt, v_cmp, v_chain, v_and, v_or, v_ite, v_sub, v_rev, v_call, v_blt, v_isi, v_comp, evs, evAnd, evOr, evIfs, evT, evTAnd, evTOr, parS, lk_dm, ha, b_mod hn, x0]
    · rw [Int.fmod_eq_emod_of_nonneg _ (by omega)]
      exact Int.emod_nonneg _ hn
    · rw [Int.fmod_eq_emod_of_nonneg _ (by omega)]
      exact Int.emod_lt_of_pos _ (by omega)
    · rw [Int.fdiv_eq_ediv_of_nonneg _ (by omega)]
      exact ⟨Int.ediv_nonneg d.a0 (by omega), Int.lt_of_le_of_lt (Int.ediv_le_self _ d.a0) d.a1, d.b0, d.b1, d.c0, by have := d.c1; omega⟩
  · have c0 := d.c0
    have c1 := d.c1
    have b0 := d.b0
    have b1 := d.b1
    have k1 : mulOk 49979687 (c + 1) = true := mul_ok (j := 26) (k := 61) (by unfold Sm; decide) (by unfold Sm; omega) (by decide) (by decide) (by decide)
    have k2 : mulOk 137 (c + 1) = true := mul_ok (j := 26) (k := 61) (by unfold Sm; decide) (by unfold Sm; omega) (by decide) (by decide) (by decide)
    let one := (b + 49979687 * (c + 1)).fmod 2305843009213693951
    have o0 : 0 ≤ one := by
      show 0 ≤ Int.fmod _ _
      rw [Int.fmod_eq_emod_of_nonneg _ (by omega)]
      exact Int.emod_nonneg _ (by decide)
    have o1 : one < 2305843009213693951 := by
      show Int.fmod _ _ < _
      rw [Int.fmod_eq_emod_of_nonneg _ (by omega)]
      exact Int.emod_lt_of_pos _ (by decide)
    have k3 : mulOk one one = true := mul_ok (j := 61) (k := 61) (by unfold Sm; omega) (by unfold Sm; omega) (by decide) (by decide) (by decide)
    let tw := (one * one + 137 * (c + 1)).fmod 2305843009213693921
    have w0 : 0 ≤ tw := by
      show 0 ≤ Int.fmod _ _
      rw [Int.fmod_eq_emod_of_nonneg _ (by omega)]
      exact Int.emod_nonneg _ (by decide)
    have w1 : tw < 2305843009213693921 := by
      show Int.fmod _ _ < _
      rw [Int.fmod_eq_emod_of_nonneg _ (by omega)]
      exact Int.emod_lt_of_pos _ (by decide)
    have k4 : mulOk tw 32452843 = true := mul_ok (j := 61) (k := 26) (by unfold Sm; omega) (by unfold Sm; decide) (by decide) (by decide) (by decide)
    refine ⟨((tw * 32452843 + one).fdiv 65587).fmod n, dmr rs a b (c + 1), ?_, ?_, ?_, _, _, _, rfl, ?_⟩
    · rw [c_law_roll]
      refine ru_dat rfl rfl rfl rfl ?_
      have x2 : exS W0 (callF W0 lv) (dmr rs a b c).length (.sset 0 (.cst (.int 2)) (.bin .Add (.sub (.var 0) (.cst (.int 2))) (.cst (.int 1)))) [some (.loc 0), some (.dat (.int n)), none, none, none] (dmr rs a b c) = .ok (.nx [some (.loc 0), some (.dat (.int n)), none, none, none]) (dmr rs a b (c + 1)) :=
        xs_dm2 rfl (by simp [x_nil, x_cons, x_set, x_setT, x_par, x_ife, x_ret, x_retf, n_lst, n_call, x_newl, x_exp, x_whl, x_for, bi_ok, bi_bad, of_some, lk_dat, lks_nil, lks_cons, do_nil, do_cons, op_some, ob_some, b_add, b_sub, c_lt, c_le, c_gt, c_ge, c_eqS, c_neS, c_eqI, c_neI, c_eqB, c_neB, c_eqT, c_neT, c_eqL, c_neL, c_isB, c_isntB, c_is, c_isnt, eq_int, eq_bl, eq_pair, t_bl, t_int, t_lst, t_tup, l_tup, l_lst, l_scr, l_abs, l_int, l_intB, l_max, l_min, l_tt, l_tl, l_all, l_any, l_repr, s_tup, s_lst, s_scr, i_tt, i_ii, i_ib, i_it, ix0, ix1, ix2, v_var, v_cst, v_glo, v_tup, v_lst, v_lsts, d_nil, d_star, d_one, l_max1, l_min1, l_sum, v_bin, v_neg, v_nt, v_cmp, v_chain, v_and, v_or, v_ite, v_sub, v_rev, v_call, v_blt, v_isi, v_comp, evs, evAnd, evOr, evIfs, evT, evTAnd, evTOr, parS, lk_dm]; rfl)
      have y1 : binD .Mod (.int (b + 49979687 * (c + 1))) (.int 2305843009213693951) = some (.int one) := b_mod (by decide)
      have y2 : binD .Mod (.int (one * one + 137 * (c + 1))) (.int 2305843009213693921) = some (.int tw) := b_mod (by decide)
      have y3 : binD .FloorDiv (.int (tw * 32452843 + one)) (.int 65587) = some (.int ((tw * 32452843 + one).fdiv 65587)) := b_div (by decide) (div_ok (k := 20) (by unfold Sm; decide) (by decide))
      simp [d_law_roll, b_law_roll, x_nil, x_cons, x_set, x_setT, x_par, x_ife, x_ret, x_retf, n_lst, n_call, x_newl, x_exp, x_whl, x_for, bi_ok, bi_bad, of_some, lk_dat, lks_nil, lks_cons, do_nil, do_cons, op_some, ob_some, b_add, b_sub, c_lt, c_le, c_gt, c_ge, c_eqS, c_neS, c_eqI, c_neI, c_eqB, c_neB, c_eqT, c_neT, c_eqL, c_neL, c_isB, c_isntB, c_is, c_isnt, eq_int, eq_bl, eq_pair, t_bl, t_int, t_lst, t_tup, l_tup, l_lst, l_scr, l_abs, l_int, l_intB, l_max, l_min, l_tt, l_tl, l_all, l_any, l_repr, s_tup, s_lst, s_scr, i_tt, i_ii, i_ib, i_it, ix0, ix1, ix2, v_var, v_cst, v_glo, v_tup, v_lst, v_lsts, d_nil, d_star, d_one, l_max1, l_min1, l_sum, v_bin, v_neg, v_nt, v_cmp, v_chain, v_and, v_or, v_ite, v_sub, v_rev, v_call, v_blt, v_isi, v_comp, evs, evAnd, evOr, evIfs, evT, evTAnd, evTOr, parS, lk_dm, ha, x2, b_mul k1, b_mul k2, b_mul k3, b_mul k4, y1, y2, y3, b_mod hn]
    · rw [Int.fmod_eq_emod_of_nonneg _ (by omega)]
      exact Int.emod_nonneg _ hn
    · rw [Int.fmod_eq_emod_of_nonneg _ (by omega)]
      exact Int.emod_lt_of_pos _ (by omega)
    · exact ⟨d.a0, d.a1, d.b0, d.b1, by omega, by omega⟩
theorem pick_ok (lv B : Nat) (m : Sto) (ds : List D) (hm : Dm rs m B) (hB : B + 1 ≤ 2 ^ 60) (h1 : 1 ≤ ds.length) (h2 : ds.length < 2 ^ 20) :
    ∃ (i : Nat) (d : D) (m' : Sto), callF W0 (lv + 2) 28 [.loc 0, .dat (.lst ds)] m = .ok (.vl (.dat d)) m' ∧ ds[i]? = some d ∧ Dm rs m' (B + 1) := by
  obtain ⟨r, m', e, r0, r1, hm'⟩ := roll_ok lv B m ds.length hm hB (by omega) (by omega)
  obtain ⟨i, rfl⟩ : ∃ i : Nat, r = i := ⟨r.toNat, by omega⟩
  have hi : i < ds.length := by omega
  refine ⟨i, ds[i], m', ?_, List.getElem?_eq_getElem hi, hm'⟩
  rw [c_law_pick]
  refine ru_dat rfl rfl rfl (by rw [hm.len, hm'.len]) ?_
  have ix : ixD ds.length (i : Int) = some i := ix_lit hi
  simp [d_law_pick, b_law_pick, x_nil, x_cons, x_set, x_setT, x_par, x_ife, x_ret, x_retf, n_lst, n_call, x_newl, x_exp, x_whl, x_for, bi_ok, bi_bad, of_some, lk_dat, lks_nil, lks_cons, do_nil, do_cons, op_some, ob_some, b_add, b_sub, c_lt, c_le, c_gt, c_ge, c_eqS, c_neS, c_eqI, c_neI, c_eqB, c_neB, c_eqT, c_neT, c_eqL, c_neL, c_isB, c_isntB, c_is, c_isnt, eq_int, eq_bl, eq_pair, t_bl, t_int, t_lst, t_tup, l_tup, l_lst, l_scr, l_abs, l_int, l_intB, l_max, l_min, l_tt, l_tl, l_all, l_any, l_repr, s_tup, s_lst, s_scr, i_tt, i_ii, i_ib, i_it, ix0, ix1, ix2, v_var, v_cst, v_glo, v_tup, v_lst, v_lsts, d_nil, d_star, d_one, l_max1, l_min1, l_sum, v_bin, v_neg, v_nt, v_cmp, v_chain, v_and, v_or, v_ite, v_sub, v_rev, v_call, v_blt, v_isi, v_comp, evs, evAnd, evOr, evIfs, evT, evTAnd, evTOr, parS, e, ix, hi]
theorem szl {n : Nat} (h : n ≤ 100) : szOk n = true := decide_eq_true (Nat.le_trans h (by decide))
theorem p6 : binD .Pow (.int 10) (.int 6) = some (.int 1000000) := rfl
theorem p19 : binD .Pow (.int 10) (.int 19) = some (.int 10000000000000000000) := rfl
theorem p16 : binD .Pow (.int 10) (.int 16) = some (.int 10000000000000000) := rfl
theorem p53 : binD .Pow (.int 10) (.int 53) = some (.int 100000000000000000000000000000000000000000000000000000) := rfl
theorem p318 : binD .Pow (.int 100000000000000000000000000000000000000000000000000000) (.int 6) = some (.int 1000000000000000000000000000000000000000000000000000000000000000000000000000000000000000000000000000000000000000000000000000000000000000000000000000000000000000000000000000000000000000000000000000000000000000000000000000000000000000000000000000000000000000000000000000000000000000000000000000000000000000000000000000000) := rfl
theorem dice_ok (lv : Nat) (m : Sto) (ns : List Int) (spot : Nat) (hs : spot < 100) : ∃ a b : Int, callF W0 (lv + 1) 26 [.dat (.scr (ns.map .int)), .dat (.int spot)] m = .ok (.new [.int a, .int b, .int 0]) m ∧ DB a b 0 0 := by
  obtain ⟨cell, hc⟩ : ∃ cell : Int, ev W0 (callF W0 lv) (.ite (.cmp .Lt (.var 1) (.blt .len [(.var 0)])) (.blt .int [(.sub (.var 0) (.var 1))]) (.bin .Add (.bin .Mult (.cst (.int 137)) (.var 1)) (.cst (.int 29)))) [some (.dat (.scr (ns.map .int))), some (.dat (.int spot)), none, none, none] m = .ok (.dat (.int cell)) m := by
    by_cases h : spot < ns.length
    · have ix : ixD ns.length (spot : Int) = some spot := ix_lit h
      have h' : (spot : Int) < ns.length := by omega
      refine ⟨ns[spot], ?_⟩
      simp [x_nil, x_cons, x_set, x_setT, x_par, x_ife, x_ret, x_retf, n_lst, n_call, x_newl, x_exp, x_whl, x_for, bi_ok, bi_bad, of_some, lk_dat, lks_nil, lks_cons, do_nil, do_cons, op_some, ob_some, b_add, b_sub, c_lt, c_le, c_gt, c_ge, c_eqS, c_neS, c_eqI, c_neI, c_eqB, c_neB, c_eqT, c_neT, c_eqL, c_neL, c_isB, c_isntB, c_is, c_isnt, eq_int, eq_bl, eq_pair, t_bl, t_int, t_lst, t_tup, l_tup, l_lst, l_scr, l_abs, l_int, l_intB, l_max, l_min, l_tt, l_tl, l_all, l_any, l_repr, s_tup, s_lst, s_scr, i_tt, i_ii, i_ib, i_it, ix0, ix1, ix2, v_var, v_cst, v_glo, v_tup, v_lst, v_lsts, d_nil, d_star, d_one, l_max1, l_min1, l_sum, v_bin, v_neg, v_nt, v_cmp, v_chain, v_and, v_or, v_ite, v_sub, v_rev, v_call, v_blt, v_isi, v_comp, evs, evAnd, evOr, evIfs, evT, evTAnd, evTOr, parS, h, h', ix]
    · have h' : ¬ (spot : Int) < ns.length := by omega
      have mk : mulOk 137 (spot : Int) = true := mul_ok (j := 20) (k := 20) (by unfold Sm; decide) (by unfold Sm; omega) (by decide) (by decide) (by decide)
      refine ⟨137 * spot + 29, ?_⟩
      simp [x_nil, x_cons, x_set, x_setT, x_par, x_ife, x_ret, x_retf, n_lst, n_call, x_newl, x_exp, x_whl, x_for, bi_ok, bi_bad, of_some, lk_dat, lks_nil, lks_cons, do_nil, do_cons, op_some, ob_some, b_add, b_sub, c_lt, c_le, c_gt, c_ge, c_eqS, c_neS, c_eqI, c_neI, c_eqB, c_neB, c_eqT, c_neT, c_eqL, c_neL, c_isB, c_isntB, c_is, c_isnt, eq_int, eq_bl, eq_pair, t_bl, t_int, t_lst, t_tup, l_tup, l_lst, l_scr, l_abs, l_int, l_intB, l_max, l_min, l_tt, l_tl, l_all, l_any, l_repr, s_tup, s_lst, s_scr, i_tt, i_ii, i_ib, i_it, ix0, ix1, ix2, v_var, v_cst, v_glo, v_tup, v_lst, v_lsts, d_nil, d_star, d_one, l_max1, l_min1, l_sum, v_bin, v_neg, v_nt, v_cmp, v_chain, v_and, v_or, v_ite, v_sub, v_rev, v_call, v_blt, v_isi, v_comp, evs, evAnd, evOr, evIfs, evT, evTAnd, evTOr, parS, h, h', b_mul mk]
  let great : Int := (cell.natAbs : Int).fmod 1000000000000000000000000000000000000000000000000000000000000000000000000000000000000000000000000000000000000000000000000000000000000000000000000000000000000000000000000000000000000000000000000000000000000000000000000000000000000000000000000000000000000000000000000000000000000000000000000000000000000000000000000000000
  have g0 : 0 ≤ great := by
    show 0 ≤ Int.fmod _ _
    rw [Int.fmod_eq_emod_of_nonneg _ (by decide)]
    exact Int.emod_nonneg _ (by decide)
  have g1 : great < 1000000000000000000000000000000000000000000000000000000000000000000000000000000000000000000000000000000000000000000000000000000000000000000000000000000000000000000000000000000000000000000000000000000000000000000000000000000000000000000000000000000000000000000000000000000000000000000000000000000000000000000000000000000 := by
    show Int.fmod _ _ < _
    rw [Int.fmod_eq_emod_of_nonneg _ (by decide)]
    exact Int.emod_lt_of_pos _ (by decide)
  let sd : Int := great.fmod 2305843009213693907
  have s0 : 0 ≤ sd := by
    show 0 ≤ Int.fmod _ _
    rw [Int.fmod_eq_emod_of_nonneg _ (by decide)]
    exact Int.emod_nonneg _ (by decide)
  have s1 : sd < 2305843009213693907 := by
    show Int.fmod _ _ < _
    rw [Int.fmod_eq_emod_of_nonneg _ (by decide)]
    exact Int.emod_lt_of_pos _ (by decide)
  have m1 : binD .Mod (.int (cell.natAbs : Int)) (.int 1000000000000000000000000000000000000000000000000000000000000000000000000000000000000000000000000000000000000000000000000000000000000000000000000000000000000000000000000000000000000000000000000000000000000000000000000000000000000000000000000000000000000000000000000000000000000000000000000000000000000000000000000000000) = some (.int great) := b_mod (by decide)
  have m2 : binD .Mod (.int great) (.int 2305843009213693907) = some (.int sd) := b_mod (by decide)
  have k1 : mulOk sd 71 = true := mul_ok (j := 62) (k := 20) (by unfold Sm; omega) (by unfold Sm; decide) (by decide) (by decide) (by decide)
  have k2 : mulOk 613 (spot : Int) = true := mul_ok (j := 20) (k := 20) (by unfold Sm; decide) (by unfold Sm; omega) (by decide) (by decide) (by decide)
  have k3 : ∀ x : Bool, mulOk 43 (if x = true then 1 else 0) = true := by decide
  have k3 : mulOk 43 (if cell < 0 then 1 else 0) = true := by
    have := k3 (decide (cell < 0))
    simpa using this
  refine ⟨max 0 (great - 10000000000000000), sd * 71 + 613 * spot + 43 * (if cell < 0 then 1 else 0) + 19, ?_, ?_⟩
  · rw [c_law_dice]
    refine ru_new rfl rfl rfl rfl ?_
    refine st1 (s' := [some (.dat (.scr (ns.map .int))), some (.dat (.int spot)), some (.dat (.int cell)), none, none]) (m' := m) (by
      rw [x_set]
      exact congrArg (fun r => R.bind r _) hc) ?_
    simp [x_nil, x_cons, x_set, x_setT, x_par, x_ife, x_ret, x_retf, n_lst, n_call, x_newl, x_exp, x_whl, x_for, bi_ok, bi_bad, of_some, lk_dat, lks_nil, lks_cons, do_nil, do_cons, op_some, ob_some, b_add, b_sub, c_lt, c_le, c_gt, c_ge, c_eqS, c_neS, c_eqI, c_neI, c_eqB, c_neB, c_eqT, c_neT, c_eqL, c_neL, c_isB, c_isntB, c_is, c_isnt, eq_int, eq_bl, eq_pair, t_bl, t_int, t_lst, t_tup, l_tup, l_lst, l_scr, l_abs, l_int, l_intB, l_max, l_min, l_tt, l_tl, l_all, l_any, l_repr, s_tup, s_lst, s_scr, i_tt, i_ii, i_ib, i_it, ix0, ix1, ix2, v_var, v_cst, v_glo, v_tup, v_lst, v_lsts, d_nil, d_star, d_one, l_max1, l_min1, l_sum, v_bin, v_neg, v_nt, v_cmp, v_chain, v_and, v_or, v_ite, v_sub, v_rev, v_call, v_blt, v_isi, v_comp, evs, evAnd, evOr, evIfs, evT, evTAnd, evTOr, parS, p53, p318, p16, m1, m2, b_mul k1, b_mul k2, b_mul k3, szl]
  · have c : 0 ≤ (if cell < 0 then (1 : Int) else 0) ∧ (if cell < 0 then (1 : Int) else 0) ≤ 1 := by split <;> decide
    have q : (1000000000000000000000000000000000000000000000000000000000000000000000000000000000000000000000000000000000000000000000000000000000000000000000000000000000000000000000000000000000000000000000000000000000000000000000000000000000000000000000000000000000000000000000000000000000000000000000000000000000000000000000000000000 : Int) < 2 ^ 1100 := by decide
    exact ⟨by omega, by omega, by omega, by omega, by decide, by decide⟩
/-! ### repr -/
theorem int_short {i : Int} (h : Sm 1000 i) : (PyData.shown (.int i)).length ≤ 320 := by
  have h2 : i.natAbs < 10 ^ 302 := Nat.lt_trans h (by decide)
  have e := int_text_length_le10 (k := 302) (by decide) h2
  show (Str.ofString (toString i)).length ≤ 320
  rw [PySem.ofString_length]
  omega
theorem int_wt {i : Int} (h : Sm 1000 i) : PyData.weight (.int i) ≤ 1000 := by
  unfold PyData.weight
  split
  · omega
  · have := log_lt h (by decide)
    omega
theorem lg {i : Int} (h : Sm 1000 i) : i.natAbs.log2 < 1920 := by
  have := log_lt h (by decide)
  omega
theorem lgd {q : Rat} (h : Bd 1000 q) : q.den.log2 < 1920 := by
  have := lg h.denI
  simpa using this
theorem repr_of {d : D} {p : PyData} (e : toPy d = some p) (h1 : p.showable = true) (h2 : p.depth ≤ 40) (h3 : SeqAt.shaped p = true) (h4 : p.leavesShort 320 = true) (h5 : p.weight ≤ 20000) : ∃ x, reprD d = some x := by
  refine ⟨p.shown, ?_⟩
  have l := PyData.shown_le 320 (by decide) p h4
  have z : szOk p.shown.length = true := decide_eq_true (by
    have : sizeLine = 16777216 := by decide
    omega)
  unfold reprD
  rw [e]
  simp [h1, h2, h3, z]
theorem repr_pair {a b : Int} (ha : Sm 1000 a) (hb : Sm 1000 b) : ∃ x, reprD (.tup [.int a, .int b]) = some x := by
  have wa := int_wt ha
  have wb := int_wt hb
  refine repr_of (p := .tuple [.int a, .int b]) rfl ?_ ?_ rfl ?_ ?_
  · simp [PyData.showable, PyData.showableAll, lg ha, lg hb]
  · simp [PyData.depth, PyData.depthAll]
  · simp [PyData.leavesShort, PyData.leavesShortAll, int_short ha, int_short hb]
  · simp only [PyData.weight.eq_3, PyData.weight, PyData.weightAll] at *
    omega
theorem repr_four {a b c d : Rat} (ha : Bd 1000 a) (hb : Bd 1000 b) (hc : Bd 1000 c) (hd : Bd 1000 d) : ∃ x, reprD (.lst [fr a, fr b, fr c, fr d]) = some x := by
  have a1 := int_wt ha.num
  have a2 := int_wt ha.denI
  have b1 := int_wt hb.num
  have b2 := int_wt hb.denI
  have c1 := int_wt hc.num
  have c2 := int_wt hc.denI
  have d1 := int_wt hd.num
  have d2 := int_wt hd.denI
  refine repr_of (p := .list [.tuple [.int a.num, .int a.den], .tuple [.int b.num, .int b.den], .tuple [.int c.num, .int c.den], .tuple [.int d.num, .int d.den]]) rfl ?_ ?_ rfl ?_ ?_
  · simp [PyData.showable, PyData.showableAll, lg ha.num, lgd ha, lg hb.num, lgd hb, lg hc.num, lgd hc, lg hd.num, lgd hd]
  · simp [PyData.depth, PyData.depthAll]
  · simp [PyData.leavesShort, PyData.leavesShortAll, int_short ha.num, int_short ha.denI, int_short hb.num, int_short hb.denI, int_short hc.num, int_short hc.denI, int_short hd.num, int_short hd.denI]
  · simp only [PyData.weight, PyData.weightAll] at *
    omega
/-! ### one round of the law -/
theorem s_fr0 (q : Rat) : subD (fr q) (.int 0) = some (.int q.num) := rfl
theorem s_fr1 (q : Rat) : subD (fr q) (.int 1) = some (.int (q.den : Int)) := rfl
theorem ne_fr (p q : Rat) : cmpD .NotEq (fr p) (fr q) = some (!decide (p = q)) := by
  show (eqD (fr p) (fr q)).map (!·) = _
  rw [eq_fr]
  rfl
theorem eqq_fr (p q : Rat) : cmpD .Eq (fr p) (fr q) = some (decide (p = q)) := by
  show eqD (fr p) (fr q) = _
  rw [eq_fr]
theorem sum_one : ∀ (l : List Rat) (a b : Rat), sumR l (a + b) = sumR l a + b
  | [], _, _ => rfl
  | q :: r, a, b => by
    show sumR r (a + b + q) = sumR r (a + q) + b
    rw [Rat.add_assoc, Rat.add_comm b q, ← Rat.add_assoc, sum_one r (a + q) b]
theorem sum_app : ∀ (l l' : List Rat) (a : Rat), sumR (l ++ l') a = sumR l' (sumR l a)
  | [], _, _ => rfl
  | q :: r, l', a => sum_app r l' (a + q)
theorem sum_rev : ∀ (l : List Rat) (a : Rat), sumR l.reverse a = sumR l a
  | [], _ => rfl
  | q :: r, a => by
    rw [List.reverse_cons, sum_app, sum_rev r a]
    show sumR r a + q = sumR r (a + q)
    rw [sum_one]
end K24

set_option Elab.async false
set_option linter.all false
set_option maxRecDepth 100000
set_option maxHeartbeats 1000000
set_option exponentiation.threshold 10000
namespace K24
open PySem EV POLY
/-! ### words as data -/
def wd (p : List Rat) : D := .tup (p.map fr)
theorem nm_bd {k b : Nat} {q : Rat} (h : Nm k b q) : Bd (3 * k + b + 1) q := by
  obtain ⟨a, h1, rfl⟩ := h
  refine bd_div (six_ne k) ?_ ?_
  · exact Sm.mono (k := 3 * k + b + 1) (j := b) h1 (by omega)
  · have e : 6 ^ k ≤ 8 ^ k := Nat.pow_le_pow_left (by decide) k
    have e2 : (8 : Nat) ^ k = 2 ^ (3 * k) := by rw [Nat.pow_mul]
    have e3 : 2 ^ (3 * k) < 2 ^ (3 * k + b + 1) := Nat.pow_lt_pow_right (by decide) (by omega)
    exact Sm.nat (by omega)
theorem fr_sp (q : Rat) : Sp 1 (fr q) := by simp [Sp, fr]
theorem wd_sp (p : List Rat) : Sp 2 (wd p) := by
  unfold wd Sp
  intro x hx
  obtain ⟨q, _, rfl⟩ := List.mem_map.mp hx
  exact fr_sp q
theorem fr_inj {p q : Rat} (h : fr p = fr q) : p = q := by
  have := eq_fr p q
  rw [h, eq_fr q q] at this
  simpa using this
theorem wd_inj {p q : List Rat} (h : wd p = wd q) : p = q := by
  have h1 := D.tup.inj h
  exact (List.map_inj_right (fun _ _ e => fr_inj e)).mp h1
theorem eq_of {d e : D} {P : Prop} [Decidable P] (h : ∃ b : Bool, eqD d e = some b ∧ (b = true ↔ d = e)) (hp : d = e ↔ P) : eqD d e = some (decide P) := by
  obtain ⟨b, e1, e2⟩ := h
  rw [e1]
  congr 1
  by_cases z : P
  · rw [decide_eq_true z]; exact e2.mpr (hp.mpr z)
  · rw [decide_eq_false z]
    cases b with
    | false => rfl
    | true => exact absurd (hp.mp (e2.mp rfl)) z
theorem eq_wd (p q : List Rat) : eqD (wd p) (wd q) = some (decide (p = q)) := eq_of (eq_sp (wd_sp p) (wd_sp q)) ⟨wd_inj, fun h => by rw [h]⟩
theorem eq0 (a : Rat) : cmpD .Eq (fr a) (.tup [.int 0, .int 1]) = some (decide (a = 0)) := eqq_fr a 0
theorem ne0 (a : Rat) : cmpD .NotEq (fr a) (.tup [.int 0, .int 1]) = some (!decide (a = 0)) := ne_fr a 0
theorem eq1 (a : Rat) : cmpD .Eq (fr a) (.tup [.int 1, .int 1]) = some (decide (a = 1)) := eqq_fr a 1
theorem eqn (p : List Rat) : cmpD .Eq (wd p) (.tup []) = some (decide (p = [])) := eq_wd p []
theorem nen (p : List Rat) : cmpD .NotEq (wd p) (.tup []) = some (!decide (p = [])) := by
  show (eqD (wd p) (wd [])).map _ = _
  rw [eq_wd]; rfl
theorem l_wd (p : List Rat) : bltD .len [wd p] = some (.int p.length) := by
  show some (D.int ((p.map fr).length : Nat)) = _
  rw [List.length_map]
theorem i_wd (p : List Rat) : isiD (wd p) "tuple" = some true := rfl
theorem t_wd (p : List Rat) : truD (wd p) = some (!p.isEmpty) := by
  show some (!(p.map fr).isEmpty) = _
  cases p <;> rfl
theorem ix_last {n : Nat} (h : 0 < n) : ixD n (-1) = some (n - 1) := by
  unfold ixD
  rw [if_neg (by decide), if_pos (by omega)]
  congr 1
  omega
theorem s_last {p : List Rat} (h : p ≠ []) : subD (wd p) (.int (-1)) = some (fr (p.getLast h)) := by
  have hl : 0 < p.length := List.length_pos_iff.mpr h
  show (ixD (p.map fr).length (-1)).bind _ = _
  rw [List.length_map, ix_last hl]
  show (p.map fr)[p.length - 1]? = _
  rw [List.getElem?_map, List.getLast_eq_getElem, List.getElem?_eq_getElem (by omega)]
  rfl
theorem m_tup {xs : List D} {j : Nat} (h : xs.length ≤ 1000) (hj : j ≤ 1000) : binD .Mult (.tup xs) (.int j) = some (.tup (times j xs)) := by
  have h1 : (-1000 : Int) ≤ j := by omega
  have h2 : (j : Int) ≤ 1000 := by omega
  simp [binD, h1, h2, h]
theorem m_lst {xs : List D} {j : Nat} (h : xs.length ≤ 1000) (hj : j ≤ 1000) : binD .Mult (.lst xs) (.int j) = some (.lst (times j xs)) := by
  have h1 : (-16777216 : Int) < j := by omega
  have h2 : (j : Int) < 16777216 := by omega
  have h3 : szOk (xs.length * j) = true := decide_eq_true (by
    have e : xs.length * j ≤ 1000 * 1000 := Nat.mul_le_mul h hj
    have : sizeLine = 16777216 := by decide
    omega)
  simp [binD, h1, h2, h3]
theorem times1 {α : Type} (x : α) (j : Nat) : times j [x] = List.replicate j x := by
  unfold times
  induction j with
  | zero => rfl
  | succ j ih => rw [List.replicate_succ, List.flatten_cons, ih]; rfl
theorem rep_fr (x : Rat) (j : Nat) : List.replicate j (fr x) = (List.replicate j x).map fr := by rw [List.map_replicate]
theorem a_tup {xs ys : List D} (h : xs.length + ys.length ≤ 1000) : binD .Add (.tup xs) (.tup ys) = some (.tup (xs ++ ys)) := b_catT (szk h)
theorem a_lst {xs ys : List D} (h : xs.length + ys.length ≤ 1000) : binD .Add (.lst xs) (.lst ys) = some (.lst (xs ++ ys)) := b_catL (szk h)
theorem con_N : W0.con[0]? = some (("NOUGHT" : Str), (.tup [.int 0, .int 1] : D)) := rfl
theorem con_O : W0.con[1]? = some (("ONE" : Str), (.tup [.int 1, .int 1] : D)) := rfl
theorem con_U : W0.con[3]? = some (("UNIT_WORD" : Str), (.tup [.tup [.int 1, .int 1]] : D)) := rfl
theorem con_D : W0.con[2]? = some (("MAX_DEGREE" : Str), (.int 200 : D)) := rfl
/-! ### what is a word -/
theorem is_plain_word_ok (lv : Nat) (m : Sto) (p : List Rat) (h : trim p) (hl : p.length ≤ 1000) (hb : ∀ x ∈ p, x.den < 2 ^ 8980) : callF W0 (lv + 3) 10 [.dat (wd p)] m = .ok (.vl (.dat (.bl true))) m := by
  rw [c_is_plain_word]
  refine ru_dat rfl rfl rfl rfl ?_
  simp [d_is_plain_word, b_is_plain_word, x_nil, x_cons, x_set, x_setT, x_par, x_ife, x_ret, x_retf, n_lst, n_call, x_newl, x_exp, bi_ok, bi_bad, of_some, lk_dat, lks_nil, lks_cons, do_nil, do_cons, op_some, ob_some, b_add, b_sub, c_lt, c_le, c_gt, c_ge, c_eqS, c_neS, c_eqI, c_neI, c_eqB, c_neB, c_eqT, c_neT, c_eqL, c_neL, c_isB, c_isntB, c_is, c_isnt, eq_int, eq_bl, eq_pair, t_bl, t_int, t_lst, t_tup, l_tup, l_lst, l_scr, l_abs, l_int, l_intB, l_max, l_min, l_tt, l_tl, l_all, l_any, l_repr, s_tup, s_lst, s_scr, i_tt, i_ii, i_ib, i_it, ix0, ix1, ix2, v_var, v_cst, v_glo, v_tup, v_lst, v_lsts, d_nil, d_star, d_one, l_max1, l_min1, l_sum, v_bin, v_neg, v_nt, v_cmp, v_chain, v_and, v_or, v_ite, v_sub, v_rev, v_call, v_blt, v_isi, v_comp, evs, evAnd, evOr, evIfs, evT, evTAnd, evTOr, parS, bi_asc, tgD, tgDs, wipeS, slotsOf, slotsOfs, szk, i_wd]
  refine bind_evC (enc := fr) (fun _ => D.bl true) p rfl rfl rfl hl (fun x hx => ?_) ?_
  · refine turn0 rfl ?_
    simp [x_nil, x_cons, x_set, x_setT, x_par, x_ife, x_ret, x_retf, n_lst, n_call, x_newl, x_exp, bi_ok, bi_bad, of_some, lk_dat, lks_nil, lks_cons, do_nil, do_cons, op_some, ob_some, b_add, b_sub, c_lt, c_le, c_gt, c_ge, c_eqS, c_neS, c_eqI, c_neI, c_eqB, c_neB, c_eqT, c_neT, c_eqL, c_neL, c_isB, c_isntB, c_is, c_isnt, eq_int, eq_bl, eq_pair, t_bl, t_int, t_lst, t_tup, l_tup, l_lst, l_scr, l_abs, l_int, l_intB, l_max, l_min, l_tt, l_tl, l_all, l_any, l_repr, s_tup, s_lst, s_scr, i_tt, i_ii, i_ib, i_it, ix0, ix1, ix2, v_var, v_cst, v_glo, v_tup, v_lst, v_lsts, d_nil, d_star, d_one, l_max1, l_min1, l_sum, v_bin, v_neg, v_nt, v_cmp, v_chain, v_and, v_or, v_ite, v_sub, v_rev, v_call, v_blt, v_isi, v_comp, evs, evAnd, evOr, evIfs, evT, evTAnd, evTOr, parS, bi_asc, tgD, tgDs, wipeS, slotsOf, slotsOfs, szk, is_number_ok _ _ x (hb x hx)]
  · have ha : allD (p.map fun _ => D.bl true) = some true := by rw [allD_map (fun _ => true)]; simp
    simp only [x_nil, x_cons, x_set, x_setT, x_par, x_ife, x_ret, x_retf, n_lst, n_call, x_newl, x_exp, bi_ok, bi_bad, of_some, lk_dat, lks_nil, lks_cons, do_nil, do_cons, op_some, ob_some, b_add, b_sub, c_lt, c_le, c_gt, c_ge, c_eqS, c_neS, c_eqI, c_neI, c_eqB, c_neB, c_eqT, c_neT, c_eqL, c_neL, c_isB, c_isntB, c_is, c_isnt, eq_int, eq_bl, eq_pair, t_bl, t_int, t_lst, t_tup, l_tup, l_lst, l_scr, l_abs, l_int, l_intB, l_max, l_min, l_tt, l_tl, l_all, l_any, l_repr, s_tup, s_lst, s_scr, i_tt, i_ii, i_ib, i_it, ix0, ix1, ix2, v_var, v_cst, v_glo, v_tup, v_lst, v_lsts, d_nil, d_star, d_one, l_max1, l_min1, l_sum, v_bin, v_neg, v_nt, v_cmp, v_chain, v_and, v_or, v_ite, v_sub, v_rev, v_call, v_blt, v_isi, v_comp, evs, evAnd, evOr, evIfs, evT, evTAnd, evTOr, parS, bi_asc, tgD, tgDs, wipeS, slotsOf, slotsOfs, szk, ha, eqn]
    by_cases e : p = []
    · simp [x_nil, x_cons, x_set, x_setT, x_par, x_ife, x_ret, x_retf, n_lst, n_call, x_newl, x_exp, bi_ok, bi_bad, of_some, lk_dat, lks_nil, lks_cons, do_nil, do_cons, op_some, ob_some, b_add, b_sub, c_lt, c_le, c_gt, c_ge, c_eqS, c_neS, c_eqI, c_neI, c_eqB, c_neB, c_eqT, c_neT, c_eqL, c_neL, c_isB, c_isntB, c_is, c_isnt, eq_int, eq_bl, eq_pair, t_bl, t_int, t_lst, t_tup, l_tup, l_lst, l_scr, l_abs, l_int, l_intB, l_max, l_min, l_tt, l_tl, l_all, l_any, l_repr, s_tup, s_lst, s_scr, i_tt, i_ii, i_ib, i_it, ix0, ix1, ix2, v_var, v_cst, v_glo, v_tup, v_lst, v_lsts, d_nil, d_star, d_one, l_max1, l_min1, l_sum, v_bin, v_neg, v_nt, v_cmp, v_chain, v_and, v_or, v_ite, v_sub, v_rev, v_call, v_blt, v_isi, v_comp, evs, evAnd, evOr, evIfs, evT, evTAnd, evTOr, parS, bi_asc, tgD, tgDs, wipeS, slotsOf, slotsOfs, szk, eqn, e]
    · simp [x_nil, x_cons, x_set, x_setT, x_par, x_ife, x_ret, x_retf, n_lst, n_call, x_newl, x_exp, bi_ok, bi_bad, of_some, lk_dat, lks_nil, lks_cons, do_nil, do_cons, op_some, ob_some, b_add, b_sub, c_lt, c_le, c_gt, c_ge, c_eqS, c_neS, c_eqI, c_neI, c_eqB, c_neB, c_eqT, c_neT, c_eqL, c_neL, c_isB, c_isntB, c_is, c_isnt, eq_int, eq_bl, eq_pair, t_bl, t_int, t_lst, t_tup, l_tup, l_lst, l_scr, l_abs, l_int, l_intB, l_max, l_min, l_tt, l_tl, l_all, l_any, l_repr, s_tup, s_lst, s_scr, i_tt, i_ii, i_ib, i_it, ix0, ix1, ix2, v_var, v_cst, v_glo, v_tup, v_lst, v_lsts, d_nil, d_star, d_one, l_max1, l_min1, l_sum, v_bin, v_neg, v_nt, v_cmp, v_chain, v_and, v_or, v_ite, v_sub, v_rev, v_call, v_blt, v_isi, v_comp, evs, evAnd, evOr, evIfs, evT, evTAnd, evTOr, parS, bi_asc, tgD, tgDs, wipeS, slotsOf, slotsOfs, szk, eqn, e, s_last e, ne0, con_N, h e]
theorem get_fr {p : List Rat} {i : Nat} (h : i < p.length) : subD (.lst (p.map fr)) (.int (i : Nat)) = some (fr p[i]) := by
  show (ixD (p.map fr).length (i : Nat)).bind _ = _
  rw [List.length_map, ix_lit h]
  show (p.map fr)[i]? = _
  rw [List.getElem?_map, List.getElem?_eq_getElem h]
  rfl
/-- cut, seen from the end -/
theorem cut_snoc0 : ∀ p : List Rat, cut (p ++ [0]) = cut p
  | [] => rfl
  | a :: p => by
    show cut (a :: (p ++ [0])) = _
    unfold cut
    rw [cut_snoc0 p]
theorem take_snoc {p : List Rat} {i : Nat} (h : i < p.length) : p.take (i + 1) = p.take i ++ [p[i]] := by
  rw [List.take_succ, List.getElem?_eq_getElem h]
  rfl
/-- the noughts at the end, counted down -/
theorem cut_whl (mk : Int → Slots) (f : Slots → Sto → R (Out × Bool)) (m : Sto) (p : List Rat)
    (h0 : f (mk 0) m = .ok (.nx (mk 0), false) m)
    (hf : ∀ i : Nat, (h : i < p.length) → f (mk ((i + 1 : Nat) : Int)) m = if p[i] = 0 then .ok (.nx (mk i), true) m else .ok (.nx (mk ((i + 1 : Nat) : Int)), false) m) :
    ∀ (i n : Nat), i ≤ p.length → i + 1 ≤ n → ∃ j : Nat, whlF n f (mk i) m = .ok (.nx (mk j)) m ∧ j ≤ p.length ∧ p.take j = cut (p.take i)
  | 0, n + 1, _, _ => ⟨0, by
      unfold whlF
      have h0' : f (mk ((0 : Nat) : Int)) m = _ := h0
      rw [h0']
      rfl, Nat.zero_le _, by simp [cut]⟩
  | i + 1, n + 1, hi, hn => by
    by_cases z : p[i]'(by omega) = 0
    · obtain ⟨j, e, h1, h2⟩ := cut_whl mk f m p h0 hf i n (by omega) (by omega)
      refine ⟨j, ?_, h1, ?_⟩
      · unfold whlF
        rw [hf i (by omega), if_pos z]
        exact e
      · rw [take_snoc (by omega), z, cut_snoc0]
        exact h2
    · refine ⟨i + 1, ?_, hi, ?_⟩
      · unfold whlF
        rw [hf i (by omega), if_neg z]
        rfl
      · symm
        apply cut_id
        intro hne
        rw [List.getLast_eq_getElem]
        have e : (p.take (i + 1)).length = i + 1 := by rw [List.length_take]; omega
        rw [List.getElem_take]
        have e2 : (p.take (i + 1)).length - 1 = i := by omega
        simp only [e2]
        exact z
theorem bind_cut {β : Type} (mk : Int → Slots) {f : Slots → Sto → R (Out × Bool)} {m : Sto} {p : List Rat} {g : Out → Sto → R β} {z : R β} (hl : p.length ≤ 1000)
    (h0 : f (mk 0) m = .ok (.nx (mk 0), false) m)
    (hf : ∀ i : Nat, (h : i < p.length) → f (mk ((i + 1 : Nat) : Int)) m = if p[i] = 0 then .ok (.nx (mk i), true) m else .ok (.nx (mk ((i + 1 : Nat) : Int)), false) m)
    (k : ∀ j : Nat, j ≤ p.length → p.take j = cut p → g (.nx (mk j)) m = z) : (whlF whlMost f (mk p.length) m).bind g = z := by
  obtain ⟨j, e, h1, h2⟩ := cut_whl mk f m p h0 hf p.length whlMost (Nat.le_refl _) (by
      have : whlMost = 1099511627776 := by decide
      omega)
  rw [List.take_length] at h2
  rw [e, bi_ok]
  exact k j h1 h2
theorem slc_hi {xs : List D} {j : Nat} (h : j ≤ xs.length) : slcD (.lst xs) none (some (j : Int)) = some (.lst (xs.take j)) := by
  show some (D.lst (cutD xs none (some (j : Int)))) = _
  have e : cutD xs none (some (j : Int)) = xs.take j := by
    unfold cutD endIx
    dsimp only
    rw [if_neg (by omega)]
    simp
  rw [e]
theorem v_slcH (W : Wd) (C : Cal) (s : Slots) (m : Sto) (a hi : Ex) : ev W C (.slc .hi a [hi]) s m = (ev W C a s m).bind fun x m => (ev W C hi s m).bind fun v m => match v with
    | .dat (.int j) => match look m x with
      | some d => (R.ofO (slcD d none (some j)) m).bind fun r m => .ok (.dat r) m
      | none => .bad
    | _ => .bad := rfl
theorem x_aug (W : Wd) (C : Cal) (b : Nat) (s : Slots) (m : Sto) (i : Nat) (op : Operator) (e : Ex) : exS W C b (.aug i op e) s m = match s[i]? with
    | some (some (.dat d)) => (ev W C e s m).bind fun v m => match d, op, v with
      | .int x, .Add, .dat (.int y) => .ok (.nx (s.set i (some (.dat (.int (x + y)))))) m
      | .int x, .Sub, .dat (.int y) => .ok (.nx (s.set i (some (.dat (.int (x - y)))))) m
      | _, _, _ => .bad
    | _ => .bad := rfl
theorem l_lstm {α : Type} (p : List α) (f : α → D) : bltD .len [.lst (p.map f)] = some (.int p.length) := by
  show some (D.int ((p.map f).length : Nat)) = _
  rw [List.length_map]
theorem word_of_numbers_ok (lv : Nat) (m : Sto) (p : List Rat) (hl : p.length ≤ 1000) : callF W0 (lv + 1) 11 [.dat (.lst (p.map fr))] m = .ok (.vl (.dat (wd (cut p)))) m := by
  rw [c_word_of_numbers]
  refine ru_dat rfl rfl rfl rfl ?_
  simp only [d_word_of_numbers, b_word_of_numbers]
  refine st1 (s' := [some (.dat (.lst (p.map fr))), some (.dat (.int p.length))]) (m' := m) (by simp [x_nil, x_cons, x_set, x_setT, x_par, x_ife, x_ret, x_retf, n_lst, n_call, x_newl, x_exp, bi_ok, bi_bad, of_some, lk_dat, lks_nil, lks_cons, do_nil, do_cons, op_some, ob_some, b_add, b_sub, c_lt, c_le, c_gt, c_ge, c_eqS, c_neS, c_eqI, c_neI, c_eqB, c_neB, c_eqT, c_neT, c_eqL, c_neL, c_isB, c_isntB, c_is, c_isnt, eq_int, eq_bl, eq_pair, t_bl, t_int, t_lst, t_tup, l_tup, l_lst, l_scr, l_abs, l_int, l_intB, l_max, l_min, l_tt, l_tl, l_all, l_any, l_repr, s_tup, s_lst, s_scr, i_tt, i_ii, i_ib, i_it, ix0, ix1, ix2, v_var, v_cst, v_glo, v_tup, v_lst, v_lsts, d_nil, d_star, d_one, l_max1, l_min1, l_sum, v_bin, v_neg, v_nt, v_cmp, v_chain, v_and, v_or, v_ite, v_sub, v_rev, v_call, v_blt, v_isi, v_comp, evs, evAnd, evOr, evIfs, evT, evTAnd, evTOr, parS, bi_asc, tgD, tgDs, wipeS, slotsOf, slotsOfs, szk, l_lstm]) ?_
  rw [x_cons, x_whl]
  refine bind_cut (p := p) (fun i => [some (.dat (.lst (p.map fr))), some (.dat (.int i))]) hl (by simp [whlStep, x_nil, x_cons, x_set, x_setT, x_par, x_ife, x_ret, x_retf, n_lst, n_call, x_newl, x_exp, bi_ok, bi_bad, of_some, lk_dat, lks_nil, lks_cons, do_nil, do_cons, op_some, ob_some, b_add, b_sub, c_lt, c_le, c_gt, c_ge, c_eqS, c_neS, c_eqI, c_neI, c_eqB, c_neB, c_eqT, c_neT, c_eqL, c_neL, c_isB, c_isntB, c_is, c_isnt, eq_int, eq_bl, eq_pair, t_bl, t_int, t_lst, t_tup, l_tup, l_lst, l_scr, l_abs, l_int, l_intB, l_max, l_min, l_tt, l_tl, l_all, l_any, l_repr, s_tup, s_lst, s_scr, i_tt, i_ii, i_ib, i_it, ix0, ix1, ix2, v_var, v_cst, v_glo, v_tup, v_lst, v_lsts, d_nil, d_star, d_one, l_max1, l_min1, l_sum, v_bin, v_neg, v_nt, v_cmp, v_chain, v_and, v_or, v_ite, v_sub, v_rev, v_call, v_blt, v_isi, v_comp, evs, evAnd, evOr, evIfs, evT, evTAnd, evTOr, parS, bi_asc, tgD, tgDs, wipeS, slotsOf, slotsOfs, szk]) (fun i hi => ?_) fun j h1 h2 => ?_
  · have h1 : (0 : Int) < (i : Int) + 1 := by omega
    have h2 : (i : Int) + 1 - 1 = (i : Nat) := by omega
    have g := get_fr hi
    simp [whlStep, x_nil, x_cons, x_set, x_setT, x_par, x_ife, x_ret, x_retf, n_lst, n_call, x_newl, x_exp, bi_ok, bi_bad, of_some, lk_dat, lks_nil, lks_cons, do_nil, do_cons, op_some, ob_some, b_add, b_sub, c_lt, c_le, c_gt, c_ge, c_eqS, c_neS, c_eqI, c_neI, c_eqB, c_neB, c_eqT, c_neT, c_eqL, c_neL, c_isB, c_isntB, c_is, c_isnt, eq_int, eq_bl, eq_pair, t_bl, t_int, t_lst, t_tup, l_tup, l_lst, l_scr, l_abs, l_int, l_intB, l_max, l_min, l_tt, l_tl, l_all, l_any, l_repr, s_tup, s_lst, s_scr, i_tt, i_ii, i_ib, i_it, ix0, ix1, ix2, v_var, v_cst, v_glo, v_tup, v_lst, v_lsts, d_nil, d_star, d_one, l_max1, l_min1, l_sum, v_bin, v_neg, v_nt, v_cmp, v_chain, v_and, v_or, v_ite, v_sub, v_rev, v_call, v_blt, v_isi, v_comp, evs, evAnd, evOr, evIfs, evT, evTAnd, evTOr, parS, bi_asc, tgD, tgDs, wipeS, slotsOf, slotsOfs, szk, h1, h2, con_N, g, eq0, x_aug]
  · have sl := slc_hi (xs := p.map fr) (j := j) (by rw [List.length_map]; exact h1)
    simp [x_nil, x_cons, x_set, x_setT, x_par, x_ife, x_ret, x_retf, n_lst, n_call, x_newl, x_exp, bi_ok, bi_bad, of_some, lk_dat, lks_nil, lks_cons, do_nil, do_cons, op_some, ob_some, b_add, b_sub, c_lt, c_le, c_gt, c_ge, c_eqS, c_neS, c_eqI, c_neI, c_eqB, c_neB, c_eqT, c_neT, c_eqL, c_neL, c_isB, c_isntB, c_is, c_isnt, eq_int, eq_bl, eq_pair, t_bl, t_int, t_lst, t_tup, l_tup, l_lst, l_scr, l_abs, l_int, l_intB, l_max, l_min, l_tt, l_tl, l_all, l_any, l_repr, s_tup, s_lst, s_scr, i_tt, i_ii, i_ib, i_it, ix0, ix1, ix2, v_var, v_cst, v_glo, v_tup, v_lst, v_lsts, d_nil, d_star, d_one, l_max1, l_min1, l_sum, v_bin, v_neg, v_nt, v_cmp, v_chain, v_and, v_or, v_ite, v_sub, v_rev, v_call, v_blt, v_isi, v_comp, evs, evAnd, evOr, evIfs, evT, evTAnd, evTOr, parS, bi_asc, tgD, tgDs, wipeS, slotsOf, slotsOfs, szk, v_slcH, sl, ← h2, wd]
end K24

set_option Elab.async false
set_option linter.all false
set_option maxRecDepth 100000
set_option maxHeartbeats 1000000
set_option exponentiation.threshold 10000
namespace K24
open PySem EV POLY
theorem scaled_word_ok (lv K : Nat) (m : Sto) (a : Rat) (p : List Rat) (ha : Bd K a) (hp : ∀ x ∈ p, Bd K x) (hl : p.length ≤ 1000) (hk : 1 ≤ K ∧ 2 * K + 1 ≤ 8980) : callF W0 (lv + 4) 12 [.dat (fr a), .dat (wd p)] m = .ok (.vl (.dat (wd (if a = 0 then [] else p.map (a * ·))))) m := by
  rw [c_scaled_word]
  refine ru_dat rfl rfl rfl rfl ?_
  simp only [d_scaled_word, b_scaled_word]
  by_cases h0 : a = 0
  · simp [x_nil, x_cons, x_set, x_setT, x_par, x_ife, x_ret, x_retf, n_lst, n_call, x_newl, x_exp, bi_ok, bi_bad, of_some, lk_dat, lks_nil, lks_cons, do_nil, do_cons, op_some, ob_some, b_add, b_sub, c_lt, c_le, c_gt, c_ge, c_eqS, c_neS, c_eqI, c_neI, c_eqB, c_neB, c_eqT, c_neT, c_eqL, c_neL, c_isB, c_isntB, c_is, c_isnt, eq_int, eq_bl, eq_pair, t_bl, t_int, t_lst, t_tup, l_tup, l_lst, l_scr, l_abs, l_int, l_intB, l_max, l_min, l_tt, l_tl, l_all, l_any, l_repr, s_tup, s_lst, s_scr, i_tt, i_ii, i_ib, i_it, ix0, ix1, ix2, v_var, v_cst, v_glo, v_tup, v_lst, v_lsts, d_nil, d_star, d_one, l_max1, l_min1, l_sum, v_bin, v_neg, v_nt, v_cmp, v_chain, v_and, v_or, v_ite, v_sub, v_rev, v_call, v_blt, v_isi, v_comp, evs, evAnd, evOr, evIfs, evT, evTAnd, evTOr, parS, bi_asc, tgD, tgDs, wipeS, slotsOf, slotsOfs, szk, con_N, con_O, eq0, eq1, h0]
    rfl
  · by_cases h1 : a = 1
    · simp [x_nil, x_cons, x_set, x_setT, x_par, x_ife, x_ret, x_retf, n_lst, n_call, x_newl, x_exp, bi_ok, bi_bad, of_some, lk_dat, lks_nil, lks_cons, do_nil, do_cons, op_some, ob_some, b_add, b_sub, c_lt, c_le, c_gt, c_ge, c_eqS, c_neS, c_eqI, c_neI, c_eqB, c_neB, c_eqT, c_neT, c_eqL, c_neL, c_isB, c_isntB, c_is, c_isnt, eq_int, eq_bl, eq_pair, t_bl, t_int, t_lst, t_tup, l_tup, l_lst, l_scr, l_abs, l_int, l_intB, l_max, l_min, l_tt, l_tl, l_all, l_any, l_repr, s_tup, s_lst, s_scr, i_tt, i_ii, i_ib, i_it, ix0, ix1, ix2, v_var, v_cst, v_glo, v_tup, v_lst, v_lsts, d_nil, d_star, d_one, l_max1, l_min1, l_sum, v_bin, v_neg, v_nt, v_cmp, v_chain, v_and, v_or, v_ite, v_sub, v_rev, v_call, v_blt, v_isi, v_comp, evs, evAnd, evOr, evIfs, evT, evTAnd, evTOr, parS, bi_asc, tgD, tgDs, wipeS, slotsOf, slotsOfs, szk, con_N, con_O, eq0, eq1, h1, map_one]
    · simp [x_nil, x_cons, x_set, x_setT, x_par, x_ife, x_ret, x_retf, n_lst, n_call, x_newl, x_exp, bi_ok, bi_bad, of_some, lk_dat, lks_nil, lks_cons, do_nil, do_cons, op_some, ob_some, b_add, b_sub, c_lt, c_le, c_gt, c_ge, c_eqS, c_neS, c_eqI, c_neI, c_eqB, c_neB, c_eqT, c_neT, c_eqL, c_neL, c_isB, c_isntB, c_is, c_isnt, eq_int, eq_bl, eq_pair, t_bl, t_int, t_lst, t_tup, l_tup, l_lst, l_scr, l_abs, l_int, l_intB, l_max, l_min, l_tt, l_tl, l_all, l_any, l_repr, s_tup, s_lst, s_scr, i_tt, i_ii, i_ib, i_it, ix0, ix1, ix2, v_var, v_cst, v_glo, v_tup, v_lst, v_lsts, d_nil, d_star, d_one, l_max1, l_min1, l_sum, v_bin, v_neg, v_nt, v_cmp, v_chain, v_and, v_or, v_ite, v_sub, v_rev, v_call, v_blt, v_isi, v_comp, evs, evAnd, evOr, evIfs, evT, evTAnd, evTOr, parS, bi_asc, tgD, tgDs, wipeS, slotsOf, slotsOfs, szk, con_N, con_O, eq0, eq1, h0, h1]
      refine bind_evC (enc := fr) (fun x => fr (a * x)) p rfl rfl rfl hl (fun x hx => ?_) ?_
      · refine turn0 rfl ?_
        simp [x_nil, x_cons, x_set, x_setT, x_par, x_ife, x_ret, x_retf, n_lst, n_call, x_newl, x_exp, bi_ok, bi_bad, of_some, lk_dat, lks_nil, lks_cons, do_nil, do_cons, op_some, ob_some, b_add, b_sub, c_lt, c_le, c_gt, c_ge, c_eqS, c_neS, c_eqI, c_neI, c_eqB, c_neB, c_eqT, c_neT, c_eqL, c_neL, c_isB, c_isntB, c_is, c_isnt, eq_int, eq_bl, eq_pair, t_bl, t_int, t_lst, t_tup, l_tup, l_lst, l_scr, l_abs, l_int, l_intB, l_max, l_min, l_tt, l_tl, l_all, l_any, l_repr, s_tup, s_lst, s_scr, i_tt, i_ii, i_ib, i_it, ix0, ix1, ix2, v_var, v_cst, v_glo, v_tup, v_lst, v_lsts, d_nil, d_star, d_one, l_max1, l_min1, l_sum, v_bin, v_neg, v_nt, v_cmp, v_chain, v_and, v_or, v_ite, v_sub, v_rev, v_call, v_blt, v_isi, v_comp, evs, evAnd, evOr, evIfs, evT, evTAnd, evTOr, parS, bi_asc, tgD, tgDs, wipeS, slotsOf, slotsOfs, szk, multiplied_ok _ K _ a x ha (hp x hx) hk]
      · simp [x_nil, x_cons, x_set, x_setT, x_par, x_ife, x_ret, x_retf, n_lst, n_call, x_newl, x_exp, bi_ok, bi_bad, of_some, lk_dat, lks_nil, lks_cons, do_nil, do_cons, op_some, ob_some, b_add, b_sub, c_lt, c_le, c_gt, c_ge, c_eqS, c_neS, c_eqI, c_neI, c_eqB, c_neB, c_eqT, c_neT, c_eqL, c_neL, c_isB, c_isntB, c_is, c_isnt, eq_int, eq_bl, eq_pair, t_bl, t_int, t_lst, t_tup, l_tup, l_lst, l_scr, l_abs, l_int, l_intB, l_max, l_min, l_tt, l_tl, l_all, l_any, l_repr, s_tup, s_lst, s_scr, i_tt, i_ii, i_ib, i_it, ix0, ix1, ix2, v_var, v_cst, v_glo, v_tup, v_lst, v_lsts, d_nil, d_star, d_one, l_max1, l_min1, l_sum, v_bin, v_neg, v_nt, v_cmp, v_chain, v_and, v_or, v_ite, v_sub, v_rev, v_call, v_blt, v_isi, v_comp, evs, evAnd, evOr, evIfs, evT, evTAnd, evTOr, parS, bi_asc, tgD, tgDs, wipeS, slotsOf, slotsOfs, szk, wd]
theorem addL_zip : ∀ p q : List Rat, ((p ++ List.replicate (max p.length q.length - p.length) 0).zip (q ++ List.replicate (max p.length q.length - q.length) 0)).map (fun x : Rat × Rat => x.1 + x.2) = addL p q
  | [], q => by
    simp [addL]
    induction q with
    | nil => rfl
    | cons b q ih => simp [List.replicate_succ, ih, Rat.zero_add]
  | a :: p, [] => by
    have ih := addL_zip p []
    simp at ih ⊢
    simp [List.replicate_succ, addL, Rat.add_zero, ih]
    cases p with
    | nil => rfl
    | cons => rfl
  | a :: p, b :: q => by
    have ih := addL_zip p q
    have e : max (p.length + 1) (q.length + 1) = max p.length q.length + 1 := by omega
    simp only [List.length_cons, e, Nat.add_sub_add_right, List.cons_append, List.zip_cons_cons, List.map_cons, ih]
    rfl
theorem m_nought {j : Nat} (h : j ≤ 1000) : binD .Mult (.tup [.tup [.int 0, .int 1]]) (.int j) = some (.tup (List.replicate j (fr 0))) := by
  rw [m_tup (by decide) h, times1]; rfl
theorem a_wd {p : List Rat} {j : Nat} (h : p.length + j ≤ 1000) : binD .Add (wd p) (.tup (List.replicate j (fr 0))) = some (wd (p ++ List.replicate j 0)) := by
  show binD .Add (.tup (p.map fr)) _ = _
  rw [a_tup (by simpa using h)]; simp [wd]
theorem a_wd' {p : List Rat} {j : Nat} (h : j + p.length ≤ 1000) : binD .Add (.tup (List.replicate j (fr 0))) (wd p) = some (wd (List.replicate j 0 ++ p)) := by
  show binD .Add _ (.tup (p.map fr)) = _
  rw [a_tup (by simpa using h)]; simp [wd]
theorem Bd.zero (K : Nat) (h : 1 ≤ K) : Bd K 0 := ⟨by unfold Sm; exact Nat.pow_pos (by decide), Nat.one_lt_two_pow (by omega)⟩
theorem mem_app_rep {K : Nat} {p : List Rat} {j : Nat} (hk : 1 ≤ K) (h : ∀ x ∈ p, Bd K x) : ∀ x ∈ p ++ List.replicate j 0, Bd K x := fun x hx => by
  rcases List.mem_append.mp hx with h' | h'
  · exact h x h'
  · rw [(List.mem_replicate.mp h').2]; exact .zero K hk
theorem sum_of_words_ok (lv K : Nat) (m : Sto) (p q : List Rat) (tp : trim p) (tq : trim q) (hp : ∀ x ∈ p, Bd K x) (hq : ∀ x ∈ q, Bd K x) (lp : p.length ≤ 400) (lq : q.length ≤ 400) (hk : 1 ≤ K ∧ 2 * K + 1 ≤ 8980) : callF W0 (lv + 4) 13 [.dat (wd p), .dat (wd q)] m = .ok (.vl (.dat (wd (addW p q)))) m := by
  rw [c_sum_of_words]
  refine ru_dat rfl rfl rfl rfl ?_
  simp only [d_sum_of_words, b_sum_of_words]
  by_cases h0 : p = []
  · subst h0
    rw [addW_nil tq]
    have e : binD .Add (wd []) (wd q) = some (wd q) := by
      show binD .Add (.tup []) (.tup (q.map fr)) = _
      rw [a_tup (by simp; omega)]; rfl
    simp [x_nil, x_cons, x_set, x_setT, x_par, x_ife, x_ret, x_retf, n_lst, n_call, x_newl, x_exp, bi_ok, bi_bad, of_some, lk_dat, lks_nil, lks_cons, do_nil, do_cons, op_some, ob_some, b_add, b_sub, c_lt, c_le, c_gt, c_ge, c_eqS, c_neS, c_eqI, c_neI, c_eqB, c_neB, c_eqT, c_neT, c_eqL, c_neL, c_isB, c_isntB, c_is, c_isnt, eq_int, eq_bl, eq_pair, t_bl, t_int, t_lst, t_tup, l_tup, l_lst, l_scr, l_abs, l_int, l_intB, l_max, l_min, l_tt, l_tl, l_all, l_any, l_repr, s_tup, s_lst, s_scr, i_tt, i_ii, i_ib, i_it, ix0, ix1, ix2, v_var, v_cst, v_glo, v_tup, v_lst, v_lsts, d_nil, d_star, d_one, l_max1, l_min1, l_sum, v_bin, v_neg, v_nt, v_cmp, v_chain, v_and, v_or, v_ite, v_sub, v_rev, v_call, v_blt, v_isi, v_comp, evs, evAnd, evOr, evIfs, evT, evTAnd, evTOr, parS, bi_asc, tgD, tgDs, wipeS, slotsOf, slotsOfs, szk, eqn, e]
  · by_cases h1 : q = []
    · subst h1
      rw [addW_nil' tp]
      have e : binD .Add (wd p) (wd []) = some (wd p) := by
        show binD .Add (.tup (p.map fr)) (.tup []) = _
        rw [a_tup (by simp; omega)]; simp [wd]
      simp [x_nil, x_cons, x_set, x_setT, x_par, x_ife, x_ret, x_retf, n_lst, n_call, x_newl, x_exp, bi_ok, bi_bad, of_some, lk_dat, lks_nil, lks_cons, do_nil, do_cons, op_some, ob_some, b_add, b_sub, c_lt, c_le, c_gt, c_ge, c_eqS, c_neS, c_eqI, c_neI, c_eqB, c_neB, c_eqT, c_neT, c_eqL, c_neL, c_isB, c_isntB, c_is, c_isnt, eq_int, eq_bl, eq_pair, t_bl, t_int, t_lst, t_tup, l_tup, l_lst, l_scr, l_abs, l_int, l_intB, l_max, l_min, l_tt, l_tl, l_all, l_any, l_repr, s_tup, s_lst, s_scr, i_tt, i_ii, i_ib, i_it, ix0, ix1, ix2, v_var, v_cst, v_glo, v_tup, v_lst, v_lsts, d_nil, d_star, d_one, l_max1, l_min1, l_sum, v_bin, v_neg, v_nt, v_cmp, v_chain, v_and, v_or, v_ite, v_sub, v_rev, v_call, v_blt, v_isi, v_comp, evs, evAnd, evOr, evIfs, evT, evTAnd, evTOr, parS, bi_asc, tgD, tgDs, wipeS, slotsOf, slotsOfs, szk, eqn, e, h0]
    · obtain ⟨M, hM, hM1, hM2⟩ : ∃ M : Nat, max p.length q.length = M ∧ p.length ≤ M ∧ q.length ≤ M := ⟨_, rfl, Nat.le_max_left _ _, Nat.le_max_right _ _⟩
      have hMi : max (p.length : Int) (q.length : Int) = (M : Int) := by omega
      have e1 : ((M : Int) - p.length) = ((M - p.length : Nat) : Int) := by omega
      have e2 : ((M : Int) - q.length) = ((M - q.length : Nat) : Int) := by omega
      have m1 := m_nought (j := M - p.length) (by omega)
      have m2 := m_nought (j := M - q.length) (by omega)
      rw [← e1] at m1
      rw [← e2] at m2
      have a1 := a_wd (p := p) (j := M - p.length) (by omega)
      have a2 := a_wd (p := q) (j := M - q.length) (by omega)
      have az := addL_zip p q
      rw [hM] at az
      have b1 := mem_app_rep (j := M - p.length) hk.1 hp
      have b2 := mem_app_rep (j := M - q.length) hk.1 hq
      have l1 : (p ++ List.replicate (M - p.length) 0).length = M := by simp; omega
      have l2 : (q ++ List.replicate (M - q.length) 0).length = M := by simp; omega
      generalize p ++ List.replicate (M - p.length) 0 = p' at *
      generalize q ++ List.replicate (M - q.length) 0 = q' at *
      refine st1 (s' := [some (.dat (wd p)), some (.dat (wd q)), none, none, none, none, none]) (m' := m) (by simp [x_nil, x_cons, x_set, x_setT, x_par, x_ife, x_ret, x_retf, n_lst, n_call, x_newl, x_exp, bi_ok, bi_bad, of_some, lk_dat, lks_nil, lks_cons, do_nil, do_cons, op_some, ob_some, b_add, b_sub, c_lt, c_le, c_gt, c_ge, c_eqS, c_neS, c_eqI, c_neI, c_eqB, c_neB, c_eqT, c_neT, c_eqL, c_neL, c_isB, c_isntB, c_is, c_isnt, eq_int, eq_bl, eq_pair, t_bl, t_int, t_lst, t_tup, l_tup, l_lst, l_scr, l_abs, l_int, l_intB, l_max, l_min, l_tt, l_tl, l_all, l_any, l_repr, s_tup, s_lst, s_scr, i_tt, i_ii, i_ib, i_it, ix0, ix1, ix2, v_var, v_cst, v_glo, v_tup, v_lst, v_lsts, d_nil, d_star, d_one, l_max1, l_min1, l_sum, v_bin, v_neg, v_nt, v_cmp, v_chain, v_and, v_or, v_ite, v_sub, v_rev, v_call, v_blt, v_isi, v_comp, evs, evAnd, evOr, evIfs, evT, evTAnd, evTOr, parS, bi_asc, tgD, tgDs, wipeS, slotsOf, slotsOfs, szk, eqn, h0, h1]) ?_
      refine st1 (s' := [some (.dat (wd p)), some (.dat (wd q)), some (.dat (.int M)), none, none, none, none]) (m' := m) (by simp [x_nil, x_cons, x_set, x_setT, x_par, x_ife, x_ret, x_retf, n_lst, n_call, x_newl, x_exp, bi_ok, bi_bad, of_some, lk_dat, lks_nil, lks_cons, do_nil, do_cons, op_some, ob_some, b_add, b_sub, c_lt, c_le, c_gt, c_ge, c_eqS, c_neS, c_eqI, c_neI, c_eqB, c_neB, c_eqT, c_neT, c_eqL, c_neL, c_isB, c_isntB, c_is, c_isnt, eq_int, eq_bl, eq_pair, t_bl, t_int, t_lst, t_tup, l_tup, l_lst, l_scr, l_abs, l_int, l_intB, l_max, l_min, l_tt, l_tl, l_all, l_any, l_repr, s_tup, s_lst, s_scr, i_tt, i_ii, i_ib, i_it, ix0, ix1, ix2, v_var, v_cst, v_glo, v_tup, v_lst, v_lsts, d_nil, d_star, d_one, l_max1, l_min1, l_sum, v_bin, v_neg, v_nt, v_cmp, v_chain, v_and, v_or, v_ite, v_sub, v_rev, v_call, v_blt, v_isi, v_comp, evs, evAnd, evOr, evIfs, evT, evTAnd, evTOr, parS, bi_asc, tgD, tgDs, wipeS, slotsOf, slotsOfs, szk, l_wd, hMi]) ?_
      refine st1 (s' := [some (.dat (wd p)), some (.dat (wd q)), some (.dat (.int M)), some (.dat (wd p')), some (.dat (wd q')), none, none]) (m' := m) (by
        simp [x_nil, x_cons, x_set, x_setT, x_par, x_ife, x_ret, x_retf, n_lst, n_call, x_newl, x_exp, bi_ok, bi_bad, of_some, lk_dat, lks_nil, lks_cons, do_nil, do_cons, op_some, ob_some, b_add, b_sub, c_lt, c_le, c_gt, c_ge, c_eqS, c_neS, c_eqI, c_neI, c_eqB, c_neB, c_eqT, c_neT, c_eqL, c_neL, c_isB, c_isntB, c_is, c_isnt, eq_int, eq_bl, eq_pair, t_bl, t_int, t_lst, t_tup, l_tup, l_lst, l_scr, l_abs, l_int, l_intB, l_max, l_min, l_tt, l_tl, l_all, l_any, l_repr, s_tup, s_lst, s_scr, i_tt, i_ii, i_ib, i_it, ix0, ix1, ix2, v_var, v_cst, v_glo, v_tup, v_lst, v_lsts, d_nil, d_star, d_one, l_max1, l_min1, l_sum, v_bin, v_neg, v_nt, v_cmp, v_chain, v_and, v_or, v_ite, v_sub, v_rev, v_call, v_blt, v_isi, v_comp, evs, evAnd, evOr, evIfs, evT, evTAnd, evTOr, parS, bi_asc, tgD, tgDs, wipeS, slotsOf, slotsOfs, szk, l_wd, con_N, m1, m2, a1, a2]) ?_
      simp [x_nil, x_cons, x_set, x_setT, x_par, x_ife, x_ret, x_retf, n_lst, n_call, x_newl, x_exp, bi_ok, bi_bad, of_some, lk_dat, lks_nil, lks_cons, do_nil, do_cons, op_some, ob_some, b_add, b_sub, c_lt, c_le, c_gt, c_ge, c_eqS, c_neS, c_eqI, c_neI, c_eqB, c_neB, c_eqT, c_neT, c_eqL, c_neL, c_isB, c_isntB, c_is, c_isnt, eq_int, eq_bl, eq_pair, t_bl, t_int, t_lst, t_tup, l_tup, l_lst, l_scr, l_abs, l_int, l_intB, l_max, l_min, l_tt, l_tl, l_all, l_any, l_repr, s_tup, s_lst, s_scr, i_tt, i_ii, i_ib, i_it, ix0, ix1, ix2, v_var, v_cst, v_glo, v_tup, v_lst, v_lsts, d_nil, d_star, d_one, l_max1, l_min1, l_sum, v_bin, v_neg, v_nt, v_cmp, v_chain, v_and, v_or, v_ite, v_sub, v_rev, v_call, v_blt, v_isi, v_comp, evs, evAnd, evOr, evIfs, evT, evTAnd, evTOr, parS, bi_asc, tgD, tgDs, wipeS, slotsOf, slotsOfs, szk]
      refine bind_evC (enc := fun x : Rat × Rat => D.tup [fr x.1, fr x.2]) (fun x => fr (x.1 + x.2)) (p'.zip q') rfl rfl (wd_zipT p' q') (by rw [List.length_zip]; omega) (fun x hx => ?_) ?_
      · refine turn0 rfl ?_
        have := List.of_mem_zip (a := x.1) (b := x.2) hx
        simp [x_nil, x_cons, x_set, x_setT, x_par, x_ife, x_ret, x_retf, n_lst, n_call, x_newl, x_exp, bi_ok, bi_bad, of_some, lk_dat, lks_nil, lks_cons, do_nil, do_cons, op_some, ob_some, b_add, b_sub, c_lt, c_le, c_gt, c_ge, c_eqS, c_neS, c_eqI, c_neI, c_eqB, c_neB, c_eqT, c_neT, c_eqL, c_neL, c_isB, c_isntB, c_is, c_isnt, eq_int, eq_bl, eq_pair, t_bl, t_int, t_lst, t_tup, l_tup, l_lst, l_scr, l_abs, l_int, l_intB, l_max, l_min, l_tt, l_tl, l_all, l_any, l_repr, s_tup, s_lst, s_scr, i_tt, i_ii, i_ib, i_it, ix0, ix1, ix2, v_var, v_cst, v_glo, v_tup, v_lst, v_lsts, d_nil, d_star, d_one, l_max1, l_min1, l_sum, v_bin, v_neg, v_nt, v_cmp, v_chain, v_and, v_or, v_ite, v_sub, v_rev, v_call, v_blt, v_isi, v_comp, evs, evAnd, evOr, evIfs, evT, evTAnd, evTOr, parS, bi_asc, tgD, tgDs, wipeS, slotsOf, slotsOfs, szk, added_ok _ K _ x.1 x.2 (b1 _ this.1) (b2 _ this.2) hk]
      · have w := word_of_numbers_ok (lv + 2) m (addL p q) (by rw [addL_len]; omega)
        have em : (p'.zip q').map (fun x => fr (x.1 + x.2)) = (addL p q).map fr := by rw [← az, List.map_map]; rfl
        rw [em]
        simp [x_nil, x_cons, x_set, x_setT, x_par, x_ife, x_ret, x_retf, n_lst, n_call, x_newl, x_exp, bi_ok, bi_bad, of_some, lk_dat, lks_nil, lks_cons, do_nil, do_cons, op_some, ob_some, b_add, b_sub, c_lt, c_le, c_gt, c_ge, c_eqS, c_neS, c_eqI, c_neI, c_eqB, c_neB, c_eqT, c_neT, c_eqL, c_neL, c_isB, c_isntB, c_is, c_isnt, eq_int, eq_bl, eq_pair, t_bl, t_int, t_lst, t_tup, l_tup, l_lst, l_scr, l_abs, l_int, l_intB, l_max, l_min, l_tt, l_tl, l_all, l_any, l_repr, s_tup, s_lst, s_scr, i_tt, i_ii, i_ib, i_it, ix0, ix1, ix2, v_var, v_cst, v_glo, v_tup, v_lst, v_lsts, d_nil, d_star, d_one, l_max1, l_min1, l_sum, v_bin, v_neg, v_nt, v_cmp, v_chain, v_and, v_or, v_ite, v_sub, v_rev, v_call, v_blt, v_isi, v_comp, evs, evAnd, evOr, evIfs, evT, evTAnd, evTOr, parS, bi_asc, tgD, tgDs, wipeS, slotsOf, slotsOfs, szk, w, addW]
theorem later_word_ok (lv : Nat) (m : Sto) (p : List Rat) (j : Nat) (h : p.length + j ≤ 1000) : callF W0 (lv + 1) 15 [.dat (wd p), .dat (.int j)] m = .ok (.vl (.dat (wd (if p = [] then [] else List.replicate j 0 ++ p)))) m := by
  rw [c_later_word]
  refine ru_dat rfl rfl rfl rfl ?_
  simp only [d_later_word, b_later_word]
  by_cases h0 : p = []
  · simp [x_nil, x_cons, x_set, x_setT, x_par, x_ife, x_ret, x_retf, n_lst, n_call, x_newl, x_exp, bi_ok, bi_bad, of_some, lk_dat, lks_nil, lks_cons, do_nil, do_cons, op_some, ob_some, b_add, b_sub, c_lt, c_le, c_gt, c_ge, c_eqS, c_neS, c_eqI, c_neI, c_eqB, c_neB, c_eqT, c_neT, c_eqL, c_neL, c_isB, c_isntB, c_is, c_isnt, eq_int, eq_bl, eq_pair, t_bl, t_int, t_lst, t_tup, l_tup, l_lst, l_scr, l_abs, l_int, l_intB, l_max, l_min, l_tt, l_tl, l_all, l_any, l_repr, s_tup, s_lst, s_scr, i_tt, i_ii, i_ib, i_it, ix0, ix1, ix2, v_var, v_cst, v_glo, v_tup, v_lst, v_lsts, d_nil, d_star, d_one, l_max1, l_min1, l_sum, v_bin, v_neg, v_nt, v_cmp, v_chain, v_and, v_or, v_ite, v_sub, v_rev, v_call, v_blt, v_isi, v_comp, evs, evAnd, evOr, evIfs, evT, evTAnd, evTOr, parS, bi_asc, tgD, tgDs, wipeS, slotsOf, slotsOfs, szk, eqn, h0]
    rfl
  · have m1 := m_nought (j := j) (by omega)
    have a1 := a_wd' (p := p) (j := j) (by omega)
    simp only [x_nil, x_cons, x_set, x_setT, x_par, x_ife, x_ret, x_retf, n_lst, n_call, x_newl, x_exp, bi_ok, bi_bad, of_some, lk_dat, lks_nil, lks_cons, do_nil, do_cons, op_some, ob_some, b_add, b_sub, c_lt, c_le, c_gt, c_ge, c_eqS, c_neS, c_eqI, c_neI, c_eqB, c_neB, c_eqT, c_neT, c_eqL, c_neL, c_isB, c_isntB, c_is, c_isnt, eq_int, eq_bl, eq_pair, t_bl, t_int, t_lst, t_tup, l_tup, l_lst, l_scr, l_abs, l_int, l_intB, l_max, l_min, l_tt, l_tl, l_all, l_any, l_repr, s_tup, s_lst, s_scr, i_tt, i_ii, i_ib, i_it, ix0, ix1, ix2, v_var, v_cst, v_glo, v_tup, v_lst, v_lsts, d_nil, d_star, d_one, l_max1, l_min1, l_sum, v_bin, v_neg, v_nt, v_cmp, v_chain, v_and, v_or, v_ite, v_sub, v_rev, v_call, v_blt, v_isi, v_comp, evs, evAnd, evOr, evIfs, evT, evTAnd, evTOr, parS, bi_asc, tgD, tgDs, wipeS, slotsOf, slotsOfs, szk, eqn, h0, con_N, m1, a1]
    simp [x_nil, x_cons, x_set, x_setT, x_par, x_ife, x_ret, x_retf, n_lst, n_call, x_newl, x_exp, bi_ok, bi_bad, of_some, lk_dat, lks_nil, lks_cons, do_nil, do_cons, op_some, ob_some, b_add, b_sub, c_lt, c_le, c_gt, c_ge, c_eqS, c_neS, c_eqI, c_neI, c_eqB, c_neB, c_eqT, c_neT, c_eqL, c_neL, c_isB, c_isntB, c_is, c_isnt, eq_int, eq_bl, eq_pair, t_bl, t_int, t_lst, t_tup, l_tup, l_lst, l_scr, l_abs, l_int, l_intB, l_max, l_min, l_tt, l_tl, l_all, l_any, l_repr, s_tup, s_lst, s_scr, i_tt, i_ii, i_ib, i_it, ix0, ix1, ix2, v_var, v_cst, v_glo, v_tup, v_lst, v_lsts, d_nil, d_star, d_one, l_max1, l_min1, l_sum, v_bin, v_neg, v_nt, v_cmp, v_chain, v_and, v_or, v_ite, v_sub, v_rev, v_call, v_blt, v_isi, v_comp, evs, evAnd, evOr, evIfs, evT, evTAnd, evTOr, parS, bi_asc, tgD, tgDs, wipeS, slotsOf, slotsOfs, szk, eqn, h0, con_N, m1, a1]
end K24

set_option Elab.async false
set_option linter.all false
set_option maxRecDepth 100000
set_option maxHeartbeats 1000000
set_option exponentiation.threshold 10000
namespace K24
open PySem EV POLY
/-! ### later words -/
def laW (i : Nat) (p : List Rat) : List Rat := if p = [] then [] else List.replicate i 0 ++ p
theorem cf_laW (i : Nat) (p : List Rat) (n : Nat) : cf (laW i p) n = late i (cf p) n := by
  unfold laW
  split
  · rename_i h
    subst h
    unfold late
    split <;> simp [cf_nil]
  · exact cf_rep i p n
theorem trim_laW (i : Nat) {p : List Rat} (h : trim p) : trim (laW i p) := by
  unfold laW
  split
  · exact trim_nil
  · rename_i hp
    exact trim_late i hp h
theorem laW_len (i : Nat) (p : List Rat) : (laW i p).length ≤ i + p.length := by
  unfold laW
  split <;> simp

theorem rdiv (a d : Int) : (a : Rat) / (d : Rat) = Rat.divInt a d := (Rat.divInt_eq_div a d).symm
theorem cf_mem {p : List Rat} {x : Rat} (h : x ∈ p) : ∃ n, cf p n = x := by
  obtain ⟨i, hi, rfl⟩ := List.getElem_of_mem h
  refine ⟨i, ?_⟩
  unfold cf
  rw [List.getD_eq_getElem?_getD, List.getElem?_eq_getElem hi]
  rfl
theorem cd_bd {k l : Nat} {p : List Rat} (h : Cd k l p) {K : Nat} (hk : k ≤ K) : ∀ x ∈ p, Bd K x := fun x hx => by
  obtain ⟨d, d0, d1, hd⟩ := h.dn
  obtain ⟨n, rfl⟩ := cf_mem hx
  obtain ⟨a, a1, e⟩ := hd n
  rw [e, rdiv]
  exact (bd_div (k := k) d0 a1 d1).mono hk
theorem nb_bd {j : Nat} {c : Rat} (h : Nb j c) {K : Nat} (hk : j ≤ K) : Bd K c := by
  obtain ⟨u, v, v0, u1, v1, rfl⟩ := h
  rw [rdiv]
  exact (bd_div (k := j) v0 u1 v1).mono hk
/-- coefficients over one denominator -/
def Pd (D : Int) (M : Nat) (f : List Rat) : Prop := ∀ n, ∃ c : Int, c.natAbs ≤ M ∧ cf f n = (c : Rat) / (D : Rat)
theorem pd_bd {D : Int} {M K : Nat} {f : List Rat} (h : Pd D M f) (d0 : D ≠ 0) (d1 : D.natAbs < 2 ^ K) (hM : M < 2 ^ K) : ∀ x ∈ f, Bd K x := fun x hx => by
  obtain ⟨n, rfl⟩ := cf_mem hx
  obtain ⟨c, c1, e⟩ := h n
  rw [e, rdiv]
  exact bd_div d0 (Nat.lt_of_le_of_lt c1 hM) d1
theorem Pd.mono {D : Int} {M M' : Nat} {f : List Rat} (h : Pd D M f) (hm : M ≤ M') : Pd D M' f := fun n => let ⟨c, a, b⟩ := h n; ⟨c, Nat.le_trans a hm, b⟩
theorem pd_cf {D : Int} {M M' : Nat} {f g r : List Rat} (h : Pd D M f) (h' : Pd D M' g) (e : ∀ n, cf r n = cf f n + cf g n) : Pd D (M + M') r := fun n => by
  obtain ⟨c, c1, e1⟩ := h n
  obtain ⟨c', c1', e1'⟩ := h' n
  refine ⟨c + c', Nat.le_trans (Int.natAbs_add_le _ _) (by omega), ?_⟩
  rw [e, e1, e1', rdiv, rdiv, rdiv]
  by_cases z : D = 0
  · subst z; simp [Rat.add_zero]
  · rw [Rat.divInt_add_divInt _ _ z z, ← Int.add_mul, Rat.divInt_mul_right z]
theorem Pd.nil (D : Int) (M : Nat) : Pd D M [] := fun n => ⟨0, by simp, by rw [cf_nil]; simp [zdiv]⟩
/-- one number times a word, later -/
theorem pd_part {d e : Int} {k k' : Nat} {a : Rat} {q r : List Rat} (d0 : d ≠ 0) (e0 : e ≠ 0) (ha : ∃ u : Int, u.natAbs < 2 ^ k ∧ a = (u : Rat) / (d : Rat)) (hq : ∀ n, ∃ b : Int, b.natAbs < 2 ^ k' ∧ cf q n = (b : Rat) / (e : Rat)) (i : Nat) (hr : ∀ n, cf r n = late i (cf (q.map (a * ·))) n) : Pd (d * e) (2 ^ (k + k')) r := fun n => by
  rw [hr]
  unfold late
  split
  · exact ⟨0, by simp, by simp [zdiv]⟩
  · obtain ⟨u, u1, rfl⟩ := ha
    obtain ⟨b, b1, eb⟩ := hq (n - i)
    refine ⟨u * b, Nat.le_of_lt (mul_lt2 u1 b1), ?_⟩
    rw [cf_map, eb]
    have hd := castne d0
    have he := castne e0
    push_cast
    grind
theorem sumC_ok (lv k l k' l' : Nat) (m : Sto) (p q : List Rat) (hp : Cd k l p) (hq : Cd k' l' q) (hk : k ≤ 4400) (hk' : k' ≤ 4400) (hl : l ≤ 400) (hl' : l' ≤ 400) : callF W0 (lv + 4) 13 [.dat (wd p), .dat (wd q)] m = .ok (.vl (.dat (wd (addW p q)))) m :=
  sum_of_words_ok lv 4400 m p q hp.tr hq.tr (cd_bd hp hk) (cd_bd hq hk') (Nat.le_trans hp.ln hl) (Nat.le_trans hq.ln hl') (by decide)
theorem mlt {i l k : Nat} (h : i ≤ l) : i * 2 ^ k < 2 ^ (k + l) := by
  rw [Nat.pow_add, Nat.mul_comm]
  exact Nat.mul_lt_mul_of_pos_left (Nat.lt_of_le_of_lt h Nat.lt_two_pow_self) (Nat.pow_pos (by decide))
theorem productC_ok (lv k l k' l' : Nat) (m : Sto) (p q : List Rat) (hp : Cd k l p) (hq : Cd k' l' q) (hk : k + k' + l ≤ 4400) (hl : l + l' ≤ 400) : callF W0 (lv + 5) 16 [.dat (wd p), .dat (wd q)] m = .ok (.vl (.dat (wd (mulW p q)))) m := by
  obtain ⟨d, d0, d1, hd⟩ := hp.dn
  obtain ⟨e, e0, e1, he⟩ := hq.dn
  have lpl := hp.ln
  have lql := hq.ln
  rw [c_product_of_words]
  refine ru_dat rfl rfl rfl rfl ?_
  simp only [d_product_of_words, b_product_of_words]
  refine st1 (s' := [some (.dat (wd p)), some (.dat (wd q)), some (.dat (wd [])), none, none]) (m' := m) (by simp [x_nil, x_cons, x_set, x_setT, x_par, x_ife, x_ret, x_retf, n_lst, n_call, x_newl, x_exp, bi_ok, bi_bad, of_some, lk_dat, lks_nil, lks_cons, do_nil, do_cons, op_some, ob_some, b_add, b_sub, c_lt, c_le, c_gt, c_ge, c_eqS, c_neS, c_eqI, c_neI, c_eqB, c_neB, c_eqT, c_neT, c_eqL, c_neL, c_isB, c_isntB, c_is, c_isnt, eq_int, eq_bl, eq_pair, t_bl, t_int, t_lst, t_tup, l_tup, l_lst, l_scr, l_abs, l_int, l_intB, l_max, l_min, l_tt, l_tl, l_all, l_any, l_repr, s_tup, s_lst, s_scr, i_tt, i_ii, i_ib, i_it, ix0, ix1, ix2, v_var, v_cst, v_glo, v_tup, v_lst, v_lsts, d_nil, d_star, d_one, l_max1, l_min1, l_sum, v_bin, v_neg, v_nt, v_cmp, v_chain, v_and, v_or, v_ite, v_sub, v_rev, v_call, v_blt, v_isi, v_comp, evs, evAnd, evOr, evIfs, evT, evTAnd, evTOr, parS, bi_asc, tgD, tgDs, wipeS, slotsOf, slotsOfs, szk]; rfl) ?_
  rw [x_cons]
  refine bind_for (enc := fun x : Rat × Nat => D.tup [.int (x.2 : Nat), fr x.1]) (fun r s mm => ∃ (i : Nat) (p' f : List Rat) (x3 x4 : Option Vl), s = [some (.dat (wd p)), some (.dat (wd q)), some (.dat (wd f)), x3, x4] ∧ mm = m ∧ r = p'.zipIdx i ∧ i + p'.length = p.length ∧ (∀ x ∈ p', ∃ u : Int, u.natAbs < 2 ^ k ∧ x = (u : Rat) / (d : Rat)) ∧
    (∀ n, cf f n + late i (cf (mulL p' q)) n = cf (mulL p q) n) ∧ trim f ∧ f.length ≤ l + l' ∧ Pd (d * e) (i * 2 ^ (k + k')) f) p.zipIdx rfl rfl (wd_enumT p) ?_ ?_ ?_ ?_
  · rw [List.length_zipIdx]; omega
  · exact ⟨0, p, [], none, none, rfl, rfl, rfl, by omega, fun x hx => by obtain ⟨n, rfl⟩ := cf_mem hx; exact hd n, fun n => by rw [cf_nil, late_zero, Rat.zero_add], trim_nil, by simp, .nil _ _⟩
  · rintro x r s mm ⟨i, p', f, x3, x4, rfl, rfl, er, hi, hn, hc, ft, fl, fp⟩
    cases p' with
    | nil => cases er
    | cons a p' =>
      rw [List.zipIdx_cons] at er
      cases er
      have hna := hn a List.mem_cons_self
      have hn' : ∀ x ∈ p', ∃ u : Int, u.natAbs < 2 ^ k ∧ x = (u : Rat) / (d : Rat) := fun x hx => hn x (List.mem_cons_of_mem _ hx)
      rw [List.length_cons] at hi
      unfold forStep
      by_cases ha : a = 0
      · subst ha
        refine ⟨_, mm, by simp [tgD, tgDs, x_nil, x_cons, x_set, x_setT, x_par, x_ife, x_ret, x_retf, n_lst, n_call, x_newl, x_exp, bi_ok, bi_bad, of_some, lk_dat, lks_nil, lks_cons, do_nil, do_cons, op_some, ob_some, b_add, b_sub, c_lt, c_le, c_gt, c_ge, c_eqS, c_neS, c_eqI, c_neI, c_eqB, c_neB, c_eqT, c_neT, c_eqL, c_neL, c_isB, c_isntB, c_is, c_isnt, eq_int, eq_bl, eq_pair, t_bl, t_int, t_lst, t_tup, l_tup, l_lst, l_scr, l_abs, l_int, l_intB, l_max, l_min, l_tt, l_tl, l_all, l_any, l_repr, s_tup, s_lst, s_scr, i_tt, i_ii, i_ib, i_it, ix0, ix1, ix2, v_var, v_cst, v_glo, v_tup, v_lst, v_lsts, d_nil, d_star, d_one, l_max1, l_min1, l_sum, v_bin, v_neg, v_nt, v_cmp, v_chain, v_and, v_or, v_ite, v_sub, v_rev, v_call, v_blt, v_isi, v_comp, evs, evAnd, evOr, evIfs, evT, evTAnd, evTOr, parS, bi_asc, tgD, tgDs, wipeS, slotsOf, slotsOfs, szk, con_N, ne0], i + 1, p', f, some (.dat (.int i)), some (.dat (fr 0)), rfl, rfl, rfl, by omega, hn', fun n => ?_, ft, fl, fp.mono (Nat.mul_le_mul_right _ (by omega))⟩
        have h := hc n
        have z : late i (cf (q.map ((0 : Rat) * ·))) n = 0 := by
          unfold late
          split
          · rfl
          · rw [cf_map, Rat.zero_mul]
        rw [late_mulL, z, Rat.zero_add] at h
        exact h
      · have hpart : Pd (d * e) (2 ^ (k + k')) (laW i (q.map (a * ·))) := pd_part d0 e0 hna he i fun n => cf_laW _ _ n
        have hbig : (i + 1) * 2 ^ (k + k') < 2 ^ (k + k' + l) := mlt (by omega)
        have hbig1 : i * 2 ^ (k + k') ≤ (i + 1) * 2 ^ (k + k') := Nat.mul_le_mul_right _ (by omega)
        have hbig2 : 2 ^ (k + k') ≤ (i + 1) * 2 ^ (k + k') := Nat.le_mul_of_pos_left _ (by omega)
        have hde : (d * e).natAbs < 2 ^ (k + k' + l) := lt2 (mul_lt2 d1 e1) (by omega)
        have tl : trim (laW i (q.map (a * ·))) := trim_laW i (trim_map ha hq.tr)
        have ll : (laW i (q.map (a * ·))).length ≤ l + l' := Nat.le_trans (laW_len _ _) (by simp; omega)
        have bna : Bd 4400 a := by
          obtain ⟨u, u1, rfl⟩ := hna
          rw [rdiv]
          exact (bd_div (k := k) d0 u1 d1).mono (by omega)
        have c1 := scaled_word_ok lv 4400 mm a q bna (cd_bd hq (by omega)) (by omega) (by decide)
        rw [if_neg ha] at c1
        have c2 := later_word_ok (lv + 3) mm (q.map (a * ·)) i (by simp; omega)
        have c3 := sum_of_words_ok lv 4400 mm f (laW i (q.map (a * ·))) ft tl (fun x hx => (pd_bd fp (mulne d0 e0) hde (by omega) x hx).mono hk) (fun x hx => (pd_bd hpart (mulne d0 e0) hde (by omega) x hx).mono hk) (by omega) (by omega) (by decide)
        refine ⟨[some (.dat (wd p)), some (.dat (wd q)), some (.dat (wd (addW f (laW i (q.map (a * ·)))))), some (.dat (.int i)), some (.dat (fr a))], mm, ?_, i + 1, p', addW f (laW i (q.map (a * ·))), _, _, rfl, rfl, rfl, by omega, hn', fun n => ?_, tr_add _ _, Nat.le_trans (cut_len _) (by rw [addL_len]; omega), (pd_cf fp hpart (cf_addW _ _)).mono (by rw [Nat.add_mul, Nat.one_mul]; exact Nat.le_refl _)⟩
        · unfold laW at c3
          simp [tgD, tgDs, x_nil, x_cons, x_set, x_setT, x_par, x_ife, x_ret, x_retf, n_lst, n_call, x_newl, x_exp, bi_ok, bi_bad, of_some, lk_dat, lks_nil, lks_cons, do_nil, do_cons, op_some, ob_some, b_add, b_sub, c_lt, c_le, c_gt, c_ge, c_eqS, c_neS, c_eqI, c_neI, c_eqB, c_neB, c_eqT, c_neT, c_eqL, c_neL, c_isB, c_isntB, c_is, c_isnt, eq_int, eq_bl, eq_pair, t_bl, t_int, t_lst, t_tup, l_tup, l_lst, l_scr, l_abs, l_int, l_intB, l_max, l_min, l_tt, l_tl, l_all, l_any, l_repr, s_tup, s_lst, s_scr, i_tt, i_ii, i_ib, i_it, ix0, ix1, ix2, v_var, v_cst, v_glo, v_tup, v_lst, v_lsts, d_nil, d_star, d_one, l_max1, l_min1, l_sum, v_bin, v_neg, v_nt, v_cmp, v_chain, v_and, v_or, v_ite, v_sub, v_rev, v_call, v_blt, v_isi, v_comp, evs, evAnd, evOr, evIfs, evT, evTAnd, evTOr, parS, bi_asc, tgD, tgDs, wipeS, slotsOf, slotsOfs, szk, con_N, ne0, ha, c1, c2]
          simp at c3
          simp [x_nil, x_cons, x_set, x_setT, x_par, x_ife, x_ret, x_retf, n_lst, n_call, x_newl, x_exp, bi_ok, bi_bad, of_some, lk_dat, lks_nil, lks_cons, do_nil, do_cons, op_some, ob_some, b_add, b_sub, c_lt, c_le, c_gt, c_ge, c_eqS, c_neS, c_eqI, c_neI, c_eqB, c_neB, c_eqT, c_neT, c_eqL, c_neL, c_isB, c_isntB, c_is, c_isnt, eq_int, eq_bl, eq_pair, t_bl, t_int, t_lst, t_tup, l_tup, l_lst, l_scr, l_abs, l_int, l_intB, l_max, l_min, l_tt, l_tl, l_all, l_any, l_repr, s_tup, s_lst, s_scr, i_tt, i_ii, i_ib, i_it, ix0, ix1, ix2, v_var, v_cst, v_glo, v_tup, v_lst, v_lsts, d_nil, d_star, d_one, l_max1, l_min1, l_sum, v_bin, v_neg, v_nt, v_cmp, v_chain, v_and, v_or, v_ite, v_sub, v_rev, v_call, v_blt, v_isi, v_comp, evs, evAnd, evOr, evIfs, evT, evTAnd, evTOr, parS, bi_asc, tgD, tgDs, wipeS, slotsOf, slotsOfs, szk, c3, laW]
        · rw [cf_addW, cf_laW, Rat.add_assoc, ← late_mulL]
          exact hc n
  · rintro s mm ⟨i, p', f, x3, x4, rfl, rfl, er, hi, hn, hc, ft, fl, fp⟩
    have e0 : p' = [] := by
      cases p' with
      | nil => rfl
      | cons => rw [List.zipIdx_cons] at er; cases er
    subst e0
    have ef : f = mulW p q := trim_eq ft (trim_cut _) fun n => by
      have h := hc n
      have z : late i (cf (mulL [] q)) n = 0 := by
        unfold late
        split <;> rfl
      rw [z, Rat.add_zero] at h
      rw [h, mulW, cf_cut]
    subst ef
    simp [x_nil, x_cons, x_set, x_setT, x_par, x_ife, x_ret, x_retf, n_lst, n_call, x_newl, x_exp, bi_ok, bi_bad, of_some, lk_dat, lks_nil, lks_cons, do_nil, do_cons, op_some, ob_some, b_add, b_sub, c_lt, c_le, c_gt, c_ge, c_eqS, c_neS, c_eqI, c_neI, c_eqB, c_neB, c_eqT, c_neT, c_eqL, c_neL, c_isB, c_isntB, c_is, c_isnt, eq_int, eq_bl, eq_pair, t_bl, t_int, t_lst, t_tup, l_tup, l_lst, l_scr, l_abs, l_int, l_intB, l_max, l_min, l_tt, l_tl, l_all, l_any, l_repr, s_tup, s_lst, s_scr, i_tt, i_ii, i_ib, i_it, ix0, ix1, ix2, v_var, v_cst, v_glo, v_tup, v_lst, v_lsts, d_nil, d_star, d_one, l_max1, l_min1, l_sum, v_bin, v_neg, v_nt, v_cmp, v_chain, v_and, v_or, v_ite, v_sub, v_rev, v_call, v_blt, v_isi, v_comp, evs, evAnd, evOr, evIfs, evT, evTAnd, evTOr, parS, bi_asc, tgD, tgDs, wipeS, slotsOf, slotsOfs, szk]
end K24

set_option Elab.async false
set_option linter.all false
set_option maxRecDepth 100000
set_option maxHeartbeats 1000000
set_option exponentiation.threshold 10000
namespace K24
open PySem EV POLY
/-! ### the law's own words -/
theorem num0 (q : Rat) : (q.num = 0) = (q = 0) := propext Rat.num_eq_zero
theorem wd_cut_ok (lv : Nat) (m : Sto) (p : List Rat) (hl : p.length ≤ 1000) : callF W0 (lv + 1) 33 [.dat (.lst (p.map fr))] m = .ok (.vl (.dat (wd (cut p)))) m := by
  rw [c_law_wd_cut]
  refine ru_dat rfl rfl rfl rfl ?_
  simp only [d_law_wd_cut, b_law_wd_cut]
  refine st1 (s' := [some (.dat (.lst (p.map fr))), some (.dat (.int p.length))]) (m' := m) (by simp [x_nil, x_cons, x_set, x_setT, x_par, x_ife, x_ret, x_retf, n_lst, n_call, x_newl, x_exp, bi_ok, bi_bad, of_some, lk_dat, lks_nil, lks_cons, do_nil, do_cons, op_some, ob_some, b_add, b_sub, c_lt, c_le, c_gt, c_ge, c_eqS, c_neS, c_eqI, c_neI, c_eqB, c_neB, c_eqT, c_neT, c_eqL, c_neL, c_isB, c_isntB, c_is, c_isnt, eq_int, eq_bl, eq_pair, t_bl, t_int, t_lst, t_tup, l_tup, l_lst, l_scr, l_abs, l_int, l_intB, l_max, l_min, l_tt, l_tl, l_all, l_any, l_repr, s_tup, s_lst, s_scr, i_tt, i_ii, i_ib, i_it, ix0, ix1, ix2, v_var, v_cst, v_glo, v_tup, v_lst, v_lsts, d_nil, d_star, d_one, l_max1, l_min1, l_sum, v_bin, v_neg, v_nt, v_cmp, v_chain, v_and, v_or, v_ite, v_sub, v_rev, v_call, v_blt, v_isi, v_comp, evs, evAnd, evOr, evIfs, evT, evTAnd, evTOr, parS, bi_asc, tgD, tgDs, wipeS, slotsOf, slotsOfs, szk, l_lstm]) ?_
  rw [x_cons, x_whl]
  refine bind_cut (p := p) (fun i => [some (.dat (.lst (p.map fr))), some (.dat (.int i))]) hl (by simp [whlStep, x_nil, x_cons, x_set, x_setT, x_par, x_ife, x_ret, x_retf, n_lst, n_call, x_newl, x_exp, bi_ok, bi_bad, of_some, lk_dat, lks_nil, lks_cons, do_nil, do_cons, op_some, ob_some, b_add, b_sub, c_lt, c_le, c_gt, c_ge, c_eqS, c_neS, c_eqI, c_neI, c_eqB, c_neB, c_eqT, c_neT, c_eqL, c_neL, c_isB, c_isntB, c_is, c_isnt, eq_int, eq_bl, eq_pair, t_bl, t_int, t_lst, t_tup, l_tup, l_lst, l_scr, l_abs, l_int, l_intB, l_max, l_min, l_tt, l_tl, l_all, l_any, l_repr, s_tup, s_lst, s_scr, i_tt, i_ii, i_ib, i_it, ix0, ix1, ix2, v_var, v_cst, v_glo, v_tup, v_lst, v_lsts, d_nil, d_star, d_one, l_max1, l_min1, l_sum, v_bin, v_neg, v_nt, v_cmp, v_chain, v_and, v_or, v_ite, v_sub, v_rev, v_call, v_blt, v_isi, v_comp, evs, evAnd, evOr, evIfs, evT, evTAnd, evTOr, parS, bi_asc, tgD, tgDs, wipeS, slotsOf, slotsOfs, szk]) (fun i hi => ?_) fun j h1 h2 => ?_
  · have h1 : (0 : Int) < (i : Int) + 1 := by omega
    have h2 : (i : Int) + 1 - 1 = (i : Nat) := by omega
    have g := get_fr hi
    simp [whlStep, x_nil, x_cons, x_set, x_setT, x_par, x_ife, x_ret, x_retf, n_lst, n_call, x_newl, x_exp, bi_ok, bi_bad, of_some, lk_dat, lks_nil, lks_cons, do_nil, do_cons, op_some, ob_some, b_add, b_sub, c_lt, c_le, c_gt, c_ge, c_eqS, c_neS, c_eqI, c_neI, c_eqB, c_neB, c_eqT, c_neT, c_eqL, c_neL, c_isB, c_isntB, c_is, c_isnt, eq_int, eq_bl, eq_pair, t_bl, t_int, t_lst, t_tup, l_tup, l_lst, l_scr, l_abs, l_int, l_intB, l_max, l_min, l_tt, l_tl, l_all, l_any, l_repr, s_tup, s_lst, s_scr, i_tt, i_ii, i_ib, i_it, ix0, ix1, ix2, v_var, v_cst, v_glo, v_tup, v_lst, v_lsts, d_nil, d_star, d_one, l_max1, l_min1, l_sum, v_bin, v_neg, v_nt, v_cmp, v_chain, v_and, v_or, v_ite, v_sub, v_rev, v_call, v_blt, v_isi, v_comp, evs, evAnd, evOr, evIfs, evT, evTAnd, evTOr, parS, bi_asc, tgD, tgDs, wipeS, slotsOf, slotsOfs, szk, h1, h2, g, s_fr0, num0]
  · have sl := slc_hi (xs := p.map fr) (j := j) (by rw [List.length_map]; exact h1)
    simp [x_nil, x_cons, x_set, x_setT, x_par, x_ife, x_ret, x_retf, n_lst, n_call, x_newl, x_exp, bi_ok, bi_bad, of_some, lk_dat, lks_nil, lks_cons, do_nil, do_cons, op_some, ob_some, b_add, b_sub, c_lt, c_le, c_gt, c_ge, c_eqS, c_neS, c_eqI, c_neI, c_eqB, c_neB, c_eqT, c_neT, c_eqL, c_neL, c_isB, c_isntB, c_is, c_isnt, eq_int, eq_bl, eq_pair, t_bl, t_int, t_lst, t_tup, l_tup, l_lst, l_scr, l_abs, l_int, l_intB, l_max, l_min, l_tt, l_tl, l_all, l_any, l_repr, s_tup, s_lst, s_scr, i_tt, i_ii, i_ib, i_it, ix0, ix1, ix2, v_var, v_cst, v_glo, v_tup, v_lst, v_lsts, d_nil, d_star, d_one, l_max1, l_min1, l_sum, v_bin, v_neg, v_nt, v_cmp, v_chain, v_and, v_or, v_ite, v_sub, v_rev, v_call, v_blt, v_isi, v_comp, evs, evAnd, evOr, evIfs, evT, evTAnd, evTOr, parS, bi_asc, tgD, tgDs, wipeS, slotsOf, slotsOfs, szk, v_slcH, sl, ← h2, wd]
theorem ml_nought {j : Nat} (h : j ≤ 1000) : binD .Mult (.lst [.tup [.int 0, .int 1]]) (.int j) = some (.lst (List.replicate j (fr 0))) := by
  rw [m_lst (by decide) h, times1]; rfl
theorem al_wd {p : List Rat} {j : Nat} (h : p.length + j ≤ 1000) : binD .Add (.lst (p.map fr)) (.lst (List.replicate j (fr 0))) = some (.lst ((p ++ List.replicate j 0).map fr)) := by
  rw [a_lst (by simpa using h)]; simp
theorem list_wd (p : List Rat) : bltD .list [wd p] = some (.lst (p.map fr)) := rfl
theorem plusC_ok (lv k l k' l' : Nat) (m : Sto) (p q : List Rat) (hp : Cd k l p) (hq : Cd k' l' q) (hk : k ≤ 4400) (hk' : k' ≤ 4400) (hl : l ≤ 400) (hl' : l' ≤ 400) : callF W0 (lv + 3) 34 [.dat (wd p), .dat (wd q)] m = .ok (.vl (.dat (wd (addW p q)))) m := by
  rw [c_law_wd_plus]
  refine ru_dat rfl rfl rfl rfl ?_
  simp only [d_law_wd_plus, b_law_wd_plus]
  have lp := hp.ln
  have lq := hq.ln
  obtain ⟨M, hM, hM1, hM2⟩ : ∃ M : Nat, max p.length q.length = M ∧ p.length ≤ M ∧ q.length ≤ M := ⟨_, rfl, Nat.le_max_left _ _, Nat.le_max_right _ _⟩
  have hMi : max (p.length : Int) (q.length : Int) = (M : Int) := by omega
  have e1 : ((M : Int) - p.length) = ((M - p.length : Nat) : Int) := by omega
  have e2 : ((M : Int) - q.length) = ((M - q.length : Nat) : Int) := by omega
  have m1 := ml_nought (j := M - p.length) (by omega)
  have m2 := ml_nought (j := M - q.length) (by omega)
  rw [← e1] at m1
  rw [← e2] at m2
  have a1 := al_wd (p := p) (j := M - p.length) (by omega)
  have a2 := al_wd (p := q) (j := M - q.length) (by omega)
  have az := addL_zip p q
  rw [hM] at az
  have b1 := mem_app_rep (j := M - p.length) (K := 4400) (by decide) (cd_bd hp hk)
  have b2 := mem_app_rep (j := M - q.length) (K := 4400) (by decide) (cd_bd hq hk')
  have l1 : (p ++ List.replicate (M - p.length) 0).length = M := by simp; omega
  have l2 : (q ++ List.replicate (M - q.length) 0).length = M := by simp; omega
  generalize p ++ List.replicate (M - p.length) 0 = p' at *
  generalize q ++ List.replicate (M - q.length) 0 = q' at *
  refine st1 (s' := [some (.dat (wd p)), some (.dat (wd q)), some (.dat (.int M)), none, none, none, none]) (m' := m) (by simp [x_nil, x_cons, x_set, x_setT, x_par, x_ife, x_ret, x_retf, n_lst, n_call, x_newl, x_exp, bi_ok, bi_bad, of_some, lk_dat, lks_nil, lks_cons, do_nil, do_cons, op_some, ob_some, b_add, b_sub, c_lt, c_le, c_gt, c_ge, c_eqS, c_neS, c_eqI, c_neI, c_eqB, c_neB, c_eqT, c_neT, c_eqL, c_neL, c_isB, c_isntB, c_is, c_isnt, eq_int, eq_bl, eq_pair, t_bl, t_int, t_lst, t_tup, l_tup, l_lst, l_scr, l_abs, l_int, l_intB, l_max, l_min, l_tt, l_tl, l_all, l_any, l_repr, s_tup, s_lst, s_scr, i_tt, i_ii, i_ib, i_it, ix0, ix1, ix2, v_var, v_cst, v_glo, v_tup, v_lst, v_lsts, d_nil, d_star, d_one, l_max1, l_min1, l_sum, v_bin, v_neg, v_nt, v_cmp, v_chain, v_and, v_or, v_ite, v_sub, v_rev, v_call, v_blt, v_isi, v_comp, evs, evAnd, evOr, evIfs, evT, evTAnd, evTOr, parS, bi_asc, tgD, tgDs, wipeS, slotsOf, slotsOfs, szk, l_wd, hMi]) ?_
  refine st1 (s' := [some (.dat (wd p)), some (.dat (wd q)), some (.dat (.int M)), some (.dat (.lst (p'.map fr))), some (.dat (.lst (q'.map fr))), none, none]) (m' := m) (by
    simp [x_nil, x_cons, x_set, x_setT, x_par, x_ife, x_ret, x_retf, n_lst, n_call, x_newl, x_exp, bi_ok, bi_bad, of_some, lk_dat, lks_nil, lks_cons, do_nil, do_cons, op_some, ob_some, b_add, b_sub, c_lt, c_le, c_gt, c_ge, c_eqS, c_neS, c_eqI, c_neI, c_eqB, c_neB, c_eqT, c_neT, c_eqL, c_neL, c_isB, c_isntB, c_is, c_isnt, eq_int, eq_bl, eq_pair, t_bl, t_int, t_lst, t_tup, l_tup, l_lst, l_scr, l_abs, l_int, l_intB, l_max, l_min, l_tt, l_tl, l_all, l_any, l_repr, s_tup, s_lst, s_scr, i_tt, i_ii, i_ib, i_it, ix0, ix1, ix2, v_var, v_cst, v_glo, v_tup, v_lst, v_lsts, d_nil, d_star, d_one, l_max1, l_min1, l_sum, v_bin, v_neg, v_nt, v_cmp, v_chain, v_and, v_or, v_ite, v_sub, v_rev, v_call, v_blt, v_isi, v_comp, evs, evAnd, evOr, evIfs, evT, evTAnd, evTOr, parS, bi_asc, tgD, tgDs, wipeS, slotsOf, slotsOfs, szk, l_wd, list_wd, m1, m2, a1, a2]) ?_
  simp [x_nil, x_cons, x_set, x_setT, x_par, x_ife, x_ret, x_retf, n_lst, n_call, x_newl, x_exp, bi_ok, bi_bad, of_some, lk_dat, lks_nil, lks_cons, do_nil, do_cons, op_some, ob_some, b_add, b_sub, c_lt, c_le, c_gt, c_ge, c_eqS, c_neS, c_eqI, c_neI, c_eqB, c_neB, c_eqT, c_neT, c_eqL, c_neL, c_isB, c_isntB, c_is, c_isnt, eq_int, eq_bl, eq_pair, t_bl, t_int, t_lst, t_tup, l_tup, l_lst, l_scr, l_abs, l_int, l_intB, l_max, l_min, l_tt, l_tl, l_all, l_any, l_repr, s_tup, s_lst, s_scr, i_tt, i_ii, i_ib, i_it, ix0, ix1, ix2, v_var, v_cst, v_glo, v_tup, v_lst, v_lsts, d_nil, d_star, d_one, l_max1, l_min1, l_sum, v_bin, v_neg, v_nt, v_cmp, v_chain, v_and, v_or, v_ite, v_sub, v_rev, v_call, v_blt, v_isi, v_comp, evs, evAnd, evOr, evIfs, evT, evTAnd, evTOr, parS, bi_asc, tgD, tgDs, wipeS, slotsOf, slotsOfs, szk]
  refine bind_evC (enc := fun x : Rat × Rat => D.tup [fr x.1, fr x.2]) (fun x => fr (x.1 + x.2)) (p'.zip q') rfl rfl (wd_zipL p' q') (by rw [List.length_zip]; omega) (fun x hx => ?_) ?_
  · refine turn0 rfl ?_
    have := List.of_mem_zip (a := x.1) (b := x.2) hx
    simp [x_nil, x_cons, x_set, x_setT, x_par, x_ife, x_ret, x_retf, n_lst, n_call, x_newl, x_exp, bi_ok, bi_bad, of_some, lk_dat, lks_nil, lks_cons, do_nil, do_cons, op_some, ob_some, b_add, b_sub, c_lt, c_le, c_gt, c_ge, c_eqS, c_neS, c_eqI, c_neI, c_eqB, c_neB, c_eqT, c_neT, c_eqL, c_neL, c_isB, c_isntB, c_is, c_isnt, eq_int, eq_bl, eq_pair, t_bl, t_int, t_lst, t_tup, l_tup, l_lst, l_scr, l_abs, l_int, l_intB, l_max, l_min, l_tt, l_tl, l_all, l_any, l_repr, s_tup, s_lst, s_scr, i_tt, i_ii, i_ib, i_it, ix0, ix1, ix2, v_var, v_cst, v_glo, v_tup, v_lst, v_lsts, d_nil, d_star, d_one, l_max1, l_min1, l_sum, v_bin, v_neg, v_nt, v_cmp, v_chain, v_and, v_or, v_ite, v_sub, v_rev, v_call, v_blt, v_isi, v_comp, evs, evAnd, evOr, evIfs, evT, evTAnd, evTOr, parS, bi_asc, tgD, tgDs, wipeS, slotsOf, slotsOfs, szk, law_plus_ok _ 4400 _ x.1 x.2 (b1 _ this.1) (b2 _ this.2) (by decide)]
  · have w := wd_cut_ok (lv + 1) m (addL p q) (by rw [addL_len]; omega)
    have em : (p'.zip q').map (fun x => fr (x.1 + x.2)) = (addL p q).map fr := by rw [← az, List.map_map]; rfl
    rw [em]
    simp [x_nil, x_cons, x_set, x_setT, x_par, x_ife, x_ret, x_retf, n_lst, n_call, x_newl, x_exp, bi_ok, bi_bad, of_some, lk_dat, lks_nil, lks_cons, do_nil, do_cons, op_some, ob_some, b_add, b_sub, c_lt, c_le, c_gt, c_ge, c_eqS, c_neS, c_eqI, c_neI, c_eqB, c_neB, c_eqT, c_neT, c_eqL, c_neL, c_isB, c_isntB, c_is, c_isnt, eq_int, eq_bl, eq_pair, t_bl, t_int, t_lst, t_tup, l_tup, l_lst, l_scr, l_abs, l_int, l_intB, l_max, l_min, l_tt, l_tl, l_all, l_any, l_repr, s_tup, s_lst, s_scr, i_tt, i_ii, i_ib, i_it, ix0, ix1, ix2, v_var, v_cst, v_glo, v_tup, v_lst, v_lsts, d_nil, d_star, d_one, l_max1, l_min1, l_sum, v_bin, v_neg, v_nt, v_cmp, v_chain, v_and, v_or, v_ite, v_sub, v_rev, v_call, v_blt, v_isi, v_comp, evs, evAnd, evOr, evIfs, evT, evTAnd, evTOr, parS, bi_asc, tgD, tgDs, wipeS, slotsOf, slotsOfs, szk, w, addW]
theorem n_mul (W : Wd) (C : Cal) (a b : Ex) (s : Slots) (m : Sto) : evN W C (.bin .Mult a b) s m = (ev W C a s m).bind fun x m => (ev W C b s m).bind fun y m => match look m x, y with
    | some (.lst xs), .dat (.int j) => if -16777216 < j && j < 16777216 && szOk (xs.length * j.toNat) then .ok (times j.toNat xs) m else .bad
    | _, _ => .bad := rfl
theorem n_rep {W : Wd} {C : Cal} {a b : Ex} {s : Slots} {m : Sto} {xs : List D} {n : Nat} (ha : ev W C a s m = .ok (.dat (.lst xs)) m) (hb : ev W C b s m = .ok (.dat (.int n)) m) (hx : xs.length ≤ 1000) (hn : n ≤ 1000) : evN W C (.bin .Mult a b) s m = .ok (times n xs) m := by
  have h1 : (-16777216 : Int) < n := by omega
  have h2 : (n : Int) < 16777216 := by omega
  have h3 : szOk (xs.length * n) = true := decide_eq_true (by
    have e : xs.length * n ≤ 1000 * 1000 := Nat.mul_le_mul hx hn
    have : sizeLine = 16777216 := by decide
    omega)
  rw [n_mul, ha, bi_ok, hb, bi_ok]
  simp [look, h1, h2, h3]
theorem frz2 (n : Nat) (xs : List D) (a b : D) (r : Slots) : frzS n xs (some (.dat a) :: some (.dat b) :: some (.loc n) :: r) = some (.dat a) :: some (.dat b) :: some (.dat (.lst xs)) :: frzS n xs r := by simp [frzS]
theorem set_end (m : Sto) (x y : MO) : (m ++ [x]).set m.length y = m ++ [y] := by simp
theorem get_end (m : Sto) (x : MO) : (m ++ [x])[m.length]? = some x := by simp
theorem lk_end (m : Sto) (xs : List D) : look (m ++ [.lst xs]) (.loc m.length) = some (.lst xs) := lk_loc (get_end m _)
theorem x_sset (W : Wd) (C : Cal) (b : Nat) (s : Slots) (m : Sto) (i : Nat) (ix e : Ex) : exS W C b (.sset i ix e) s m = match locAt s i with
    | none => .bad
    | some n => (ev W C e s m).bind fun v m => (ev W C ix s m).bind fun k m => match v, k with
      | .dat d, .dat (.int j) => match m[n]? with
        | some (.lst xs) => match ixD xs.length j with
          | some p => .ok (.nx s) (m.set n (.lst (xs.set p d)))
          | none => .bad
        | _ => .bad
      | _, _ => .bad := rfl
theorem x_frz (W : Wd) (C : Cal) (b : Nat) (s : Slots) (m : Sto) (i : Nat) : exS W C b (.frz i) s m = match locAt s i with
    | some n => if b ≤ n then (match m[n]? with
      | some (.lst xs) => .ok (.nx (frzS n xs s)) (m.set n .nil)
      | _ => .bad) else .bad
    | none => .ok (.nx s) m := rfl
theorem x_app (W : Wd) (C : Cal) (b : Nat) (s : Slots) (m : Sto) (i : Nat) (e : Ex) : exS W C b (.app i e) s m = match locAt s i with
    | none => .bad
    | some n => if isLs m n then (ev W C e s m).bind fun v m => match v with
      | .dat d => match m[n]? with
        | some (.lst xs) => if szOk (xs.length + 1) then .ok (.nx s) (m.set n (.lst (xs ++ [d]))) else .bad
        | _ => .bad
      | _ => .bad else .bad := rfl
/-- one place of the sums -/
theorem timesC_in (lv k k' : Nat) (d e : Int) (m : Sto) (p q : List Rat) (a : Rat) (i B : Nat) (f : List Rat) (T : Nat → Rat) (R0 : Nat → Rat) (x5 x6 : Option Vl) (N : Nat) (d0 : d ≠ 0) (e0 : e ≠ 0) (d1 : d.natAbs < 2 ^ k) (e1 : e.natAbs < 2 ^ k') (ha : ∃ u : Int, u.natAbs < 2 ^ k ∧ a = (u : Rat) / (d : Rat)) (hq : ∀ x ∈ q, ∃ u : Int, u.natAbs < 2 ^ k' ∧ x = (u : Rat) / (e : Rat)) (hN : f.length = N) (hi : i + q.length ≤ N) (hz : N ≤ 1000)
    (hkk : k + k' ≤ 4400) (hBk : (B + q.length + 1) * 2 ^ (k + k') < 2 ^ 4400) (hf : Pd (d * e) (B * 2 ^ (k + k')) f)
    (hT : ∀ n, cf f n + late i (cf (q.map (a * ·))) n + R0 n = T n) :
    ∃ (f' : List Rat) (x5' x6' : Option Vl), exS W0 (callF W0 (lv + 2)) m.length (.fort (.tp [(.nm 5), (.nm 6)]) .enum [(.var 1)]
  [.ife (.andl [(.cmp .NotEq (.sub (.var 4) (.cst (.int 0))) (.cst (.int 0))), (.cmp .NotEq (.sub (.var 6) (.cst (.int 0))) (.cst (.int 0)))])
  [.sset 2 (.bin .Add (.var 3) (.var 5)) (.call 30 [(.sub (.var 2) (.bin .Add (.var 3) (.var 5))), (.call 31 [(.var 4), (.var 6)])])]
  []]) [some (.dat (wd p)), some (.dat (wd q)), some (.loc m.length), some (.dat (.int i)), some (.dat (fr a)), x5, x6] (m ++ [.lst (f.map fr)]) =
    .ok (.nx [some (.dat (wd p)), some (.dat (wd q)), some (.loc m.length), some (.dat (.int i)), some (.dat (fr a)), x5', x6']) (m ++ [.lst (f'.map fr)]) ∧ f'.length = N ∧ Pd (d * e) ((B + q.length) * 2 ^ (k + k')) f' ∧ ∀ n, cf f' n + R0 n = T n := by
  obtain ⟨s', m', e', j, q', f', x5', x6', rfl, rfl, er, hj, h1, h2, h3, h4⟩ := for_ok (W := W0) (C := callF W0 (lv + 2)) (b := m.length) (tg := .tp [(.nm 5), (.nm 6)]) (ik := .enum) (src := [(.var 1)]) (enc := fun x : Rat × Nat => D.tup [.int (x.2 : Nat), fr x.1])
    (body := [.ife (.andl [(.cmp .NotEq (.sub (.var 4) (.cst (.int 0))) (.cst (.int 0))), (.cmp .NotEq (.sub (.var 6) (.cst (.int 0))) (.cst (.int 0)))])
  [.sset 2 (.bin .Add (.var 3) (.var 5)) (.call 30 [(.sub (.var 2) (.bin .Add (.var 3) (.var 5))), (.call 31 [(.var 4), (.var 6)])])]
  []]) (s := [some (.dat (wd p)), some (.dat (wd q)), some (.loc m.length), some (.dat (.int i)), some (.dat (fr a)), x5, x6]) (m := m ++ [.lst (f.map fr)])
    (fun r s mm => ∃ (j : Nat) (q' f : List Rat) (x5 x6 : Option Vl), s = [some (.dat (wd p)), some (.dat (wd q)), some (.loc m.length), some (.dat (.int i)), some (.dat (fr a)), x5, x6] ∧ mm = m ++ [.lst (f.map fr)] ∧ r = q'.zipIdx j ∧ j + q'.length = q.length ∧ (∀ x ∈ q', ∃ u : Int, u.natAbs < 2 ^ k' ∧ x = (u : Rat) / (e : Rat)) ∧ f.length = N ∧ Pd (d * e) ((B + j) * 2 ^ (k + k')) f ∧
      ∀ n, cf f n + late (i + j) (cf (q'.map (a * ·))) n + R0 n = T n) q.zipIdx rfl rfl (wd_enumT q) (by rw [List.length_zipIdx]; omega) ⟨0, q, f, x5, x6, rfl, rfl, rfl, by omega, hq, hN, hf, hT⟩ (by
    rintro x r s mm ⟨j, q', f, x5, x6, rfl, rfl, er, hj, h1, h2, h3, h4⟩
    cases q' with
    | nil => cases er
    | cons y q' =>
      rw [List.zipIdx_cons] at er
      cases er
      rw [List.length_cons] at hj
      have hy := h1 y List.mem_cons_self
      have h1' : ∀ x ∈ q', ∃ u : Int, u.natAbs < 2 ^ k' ∧ x = (u : Rat) / (e : Rat) := fun z hz => h1 z (List.mem_cons_of_mem _ hz)
      unfold forStep
      by_cases z : a = 0 ∨ y = 0
      · have za : a * y = 0 := by rcases z with rfl | rfl <;> simp [Rat.zero_mul, Rat.mul_zero]
        refine ⟨_, _, ?_, j + 1, q', f, some (.dat (.int j)), some (.dat (fr y)), rfl, rfl, rfl, by omega, h1', h2, h3.mono (Nat.mul_le_mul_right _ (by omega)), fun n => ?_⟩
        · by_cases z0 : a = 0
          · simp [tgD, tgDs, x_nil, x_cons, x_set, x_setT, x_par, x_ife, x_ret, x_retf, n_lst, n_call, x_newl, x_exp, bi_ok, bi_bad, of_some, lk_dat, lks_nil, lks_cons, do_nil, do_cons, op_some, ob_some, b_add, b_sub, c_lt, c_le, c_gt, c_ge, c_eqS, c_neS, c_eqI, c_neI, c_eqB, c_neB, c_eqT, c_neT, c_eqL, c_neL, c_isB, c_isntB, c_is, c_isnt, eq_int, eq_bl, eq_pair, t_bl, t_int, t_lst, t_tup, l_tup, l_lst, l_scr, l_abs, l_int, l_intB, l_max, l_min, l_tt, l_tl, l_all, l_any, l_repr, s_tup, s_lst, s_scr, i_tt, i_ii, i_ib, i_it, ix0, ix1, ix2, v_var, v_cst, v_glo, v_tup, v_lst, v_lsts, d_nil, d_star, d_one, l_max1, l_min1, l_sum, v_bin, v_neg, v_nt, v_cmp, v_chain, v_and, v_or, v_ite, v_sub, v_rev, v_call, v_blt, v_isi, v_comp, evs, evAnd, evOr, evIfs, evT, evTAnd, evTOr, parS, bi_asc, tgD, tgDs, wipeS, slotsOf, slotsOfs, szk, s_fr0, num0, z0]
          · have z1 : y = 0 := z.resolve_left z0
            simp [tgD, tgDs, x_nil, x_cons, x_set, x_setT, x_par, x_ife, x_ret, x_retf, n_lst, n_call, x_newl, x_exp, bi_ok, bi_bad, of_some, lk_dat, lks_nil, lks_cons, do_nil, do_cons, op_some, ob_some, b_add, b_sub, c_lt, c_le, c_gt, c_ge, c_eqS, c_neS, c_eqI, c_neI, c_eqB, c_neB, c_eqT, c_neT, c_eqL, c_neL, c_isB, c_isntB, c_is, c_isnt, eq_int, eq_bl, eq_pair, t_bl, t_int, t_lst, t_tup, l_tup, l_lst, l_scr, l_abs, l_int, l_intB, l_max, l_min, l_tt, l_tl, l_all, l_any, l_repr, s_tup, s_lst, s_scr, i_tt, i_ii, i_ib, i_it, ix0, ix1, ix2, v_var, v_cst, v_glo, v_tup, v_lst, v_lsts, d_nil, d_star, d_one, l_max1, l_min1, l_sum, v_bin, v_neg, v_nt, v_cmp, v_chain, v_and, v_or, v_ite, v_sub, v_rev, v_call, v_blt, v_isi, v_comp, evs, evAnd, evOr, evIfs, evT, evTAnd, evTOr, parS, bi_asc, tgD, tgDs, wipeS, slotsOf, slotsOfs, szk, s_fr0, num0, z0, z1]
        · have h := h4 n
          rw [List.map_cons, late_cons, za] at h
          have e0 : (if n = i + j then (0 : Rat) else 0) = 0 := by split <;> rfl
          rw [e0, Rat.zero_add] at h
          exact h
      · have z0 : ¬ a = 0 := fun h => z (.inl h)
        have z1 : ¬ y = 0 := fun h => z (.inr h)
        have hlt : i + j < f.length := by omega
        have g := get_fr hlt
        rw [Int.natCast_add] at g
        have ecf : cf f (i + j) = f[i + j] := by
          unfold cf
          rw [List.getD_eq_getElem?_getD, List.getElem?_eq_getElem hlt]; rfl
        have hde : (d * e).natAbs < 2 ^ 4400 := lt2 (mul_lt2 d1 e1) hkk
        have hM : (B + j) * 2 ^ (k + k') < 2 ^ 4400 := Nat.lt_of_le_of_lt (Nat.mul_le_mul_right _ (by omega)) hBk
        have bfj : Bd 4400 f[i + j] := pd_bd h3 (mulne d0 e0) hde hM _ (List.getElem_mem hlt)
        have bna : Bd 4400 a := by
          obtain ⟨u, u1, rfl⟩ := ha
          rw [rdiv]
          exact (bd_div (k := k) d0 u1 d1).mono (by omega)
        have bny : Bd 4400 y := by
          obtain ⟨u, u1, rfl⟩ := hy
          rw [rdiv]
          exact (bd_div (k := k') e0 u1 e1).mono (by omega)
        obtain ⟨w, w1, ew⟩ : ∃ w : Int, w.natAbs ≤ 2 ^ (k + k') ∧ a * y = (w : Rat) / ((d * e : Int) : Rat) := by
          obtain ⟨u, u1, rfl⟩ := ha
          obtain ⟨v, v1, rfl⟩ := hy
          refine ⟨u * v, Nat.le_of_lt (mul_lt2 u1 v1), ?_⟩
          have hd := castne d0
          have he := castne e0
          push_cast
          grind
        have bay : Bd 4400 (a * y) := by
          rw [ew, rdiv]
          refine bd_div (mulne d0 e0) ?_ hde
          have h5 : 2 ^ (k + k') ≤ (B + q.length + 1) * 2 ^ (k + k') := Nat.le_mul_of_pos_left _ (by omega)
          exact Nat.lt_of_le_of_lt w1 (Nat.lt_of_le_of_lt h5 hBk)
        have c1 := law_times_ok lv 4400 (m ++ [.lst (f.map fr)]) a y bna bny (by decide)
        have c2 := law_plus_ok lv 4400 (m ++ [.lst (f.map fr)]) f[i + j] (a * y) bfj bay (by decide)
        have ix : ixD f.length ((i : Int) + (j : Int)) = some (i + j) := by
          have := ix_lit hlt
          rw [Int.natCast_add] at this
          exact this
        refine ⟨[some (.dat (wd p)), some (.dat (wd q)), some (.loc m.length), some (.dat (.int i)), some (.dat (fr a)), some (.dat (.int j)), some (.dat (fr y))], m ++ [.lst ((f.set (i + j) (f[i + j] + a * y)).map fr)], ?_, j + 1, q', f.set (i + j) (f[i + j] + a * y), _, _, rfl, rfl, rfl, by omega, h1', by rw [List.length_set]; exact h2, fun n => ?_, fun n => ?_⟩
        · have la : locAt [some (.dat (wd p)), some (.dat (wd q)), some (.loc m.length), some (.dat (.int i)), some (.dat (fr a)), some (.dat (.int j)), some (.dat (fr y))] 2 = some m.length := rfl
          simp [tgD, tgDs, x_nil, x_cons, x_set, x_setT, x_par, x_ife, x_ret, x_retf, n_lst, n_call, x_newl, x_exp, bi_ok, bi_bad, of_some, lk_dat, lks_nil, lks_cons, do_nil, do_cons, op_some, ob_some, b_add, b_sub, c_lt, c_le, c_gt, c_ge, c_eqS, c_neS, c_eqI, c_neI, c_eqB, c_neB, c_eqT, c_neT, c_eqL, c_neL, c_isB, c_isntB, c_is, c_isnt, eq_int, eq_bl, eq_pair, t_bl, t_int, t_lst, t_tup, l_tup, l_lst, l_scr, l_abs, l_int, l_intB, l_max, l_min, l_tt, l_tl, l_all, l_any, l_repr, s_tup, s_lst, s_scr, i_tt, i_ii, i_ib, i_it, ix0, ix1, ix2, v_var, v_cst, v_glo, v_tup, v_lst, v_lsts, d_nil, d_star, d_one, l_max1, l_min1, l_sum, v_bin, v_neg, v_nt, v_cmp, v_chain, v_and, v_or, v_ite, v_sub, v_rev, v_call, v_blt, v_isi, v_comp, evs, evAnd, evOr, evIfs, evT, evTAnd, evTOr, parS, bi_asc, tgD, tgDs, wipeS, slotsOf, slotsOfs, szk, s_fr0, num0, z0, z1, x_sset, la, lk_end, g, c1, c2, ix, List.map_set]
        · rw [cf_set hlt]
          obtain ⟨c, c1, ec⟩ := h3 n
          by_cases en : n = i + j
          · subst en
            rw [if_pos rfl, ← ecf, ec, ew]
            refine ⟨c + w, Nat.le_trans (Int.natAbs_add_le _ _) ?_, ?_⟩
            · have e5 : (B + (j + 1)) * 2 ^ (k + k') = (B + j) * 2 ^ (k + k') + 2 ^ (k + k') := by rw [← Nat.add_assoc, Nat.add_mul (B + j), Nat.one_mul]
              omega
            · have hd := castne d0
              have he := castne e0
              push_cast
              grind
          · rw [if_neg en]
            exact ⟨c, Nat.le_trans c1 (Nat.mul_le_mul_right _ (by omega)), ec⟩
        · have h := h4 n
          rw [List.map_cons, late_cons] at h
          rw [cf_set hlt]
          by_cases en : n = i + j
          · subst en
            rw [if_pos rfl]
            rw [if_pos rfl, ecf] at h
            rw [Rat.add_assoc f[i + j] (a * y)]
            exact h
          · rw [if_neg en]
            rw [if_neg en, Rat.zero_add] at h
            exact h)
  have e0 : q' = [] := by
    cases q' with
    | nil => rfl
    | cons => rw [List.zipIdx_cons] at er; cases er
  subst e0
  refine ⟨f', x5', x6', e', h2, h3.mono (Nat.mul_le_mul_right _ (by simp at hj; omega)), fun n => ?_⟩
  have h := h4 n
  have z : late (i + j) (cf (([] : List Rat).map (a * ·))) n = 0 := by
    unfold late
    split <;> rfl
  rw [z, Rat.add_zero] at h
  exact h
theorem timesC_ok (lv k l k' l' : Nat) (m : Sto) (p q : List Rat) (hp : Cd k l p) (hq : Cd k' l' q) (hk : k + k' + (l + l' + 1) ≤ 4400) (hl : l + l' ≤ 400) : callF W0 (lv + 3) 38 [.dat (wd p), .dat (wd q)] m = .ok (.vl (.dat (wd (mulW p q)))) m := by
  rw [c_law_wd_times]
  by_cases hp0 : p = []
  · subst hp0
    have key : exs W0 (callF W0 (lv + 2)) m.length d_law_wd_times.body (([.dat (wd []), .dat (wd q)] : List Vl).map some ++ List.replicate (d_law_wd_times.ns - d_law_wd_times.np) none) (m ++ List.replicate d_law_wd_times.nc .nil) = .ok (.ret (.vl (.dat (wd [])))) (m ++ [.nil]) := by
      simp [d_law_wd_times, b_law_wd_times, x_nil, x_cons, x_set, x_setT, x_par, x_ife, x_ret, x_retf, n_lst, n_call, x_newl, x_exp, bi_ok, bi_bad, of_some, lk_dat, lks_nil, lks_cons, do_nil, do_cons, op_some, ob_some, b_add, b_sub, c_lt, c_le, c_gt, c_ge, c_eqS, c_neS, c_eqI, c_neI, c_eqB, c_neB, c_eqT, c_neT, c_eqL, c_neL, c_isB, c_isntB, c_is, c_isnt, eq_int, eq_bl, eq_pair, t_bl, t_int, t_lst, t_tup, l_tup, l_lst, l_scr, l_abs, l_int, l_intB, l_max, l_min, l_tt, l_tl, l_all, l_any, l_repr, s_tup, s_lst, s_scr, i_tt, i_ii, i_ib, i_it, ix0, ix1, ix2, v_var, v_cst, v_glo, v_tup, v_lst, v_lsts, d_nil, d_star, d_one, l_max1, l_min1, l_sum, v_bin, v_neg, v_nt, v_cmp, v_chain, v_and, v_or, v_ite, v_sub, v_rev, v_call, v_blt, v_isi, v_comp, evs, evAnd, evOr, evIfs, evT, evTAnd, evTOr, parS, bi_asc, tgD, tgDs, wipeS, slotsOf, slotsOfs, szk, eqn]
      rfl
    have := ru_cut (f := d_law_wd_times) (vs := [.dat (wd []), .dat (wd q)]) (m := m) rfl rfl key
    simpa [mulW_nil] using this
  · by_cases hq0 : q = []
    · subst hq0
      have key : exs W0 (callF W0 (lv + 2)) m.length d_law_wd_times.body (([.dat (wd p), .dat (wd [])] : List Vl).map some ++ List.replicate (d_law_wd_times.ns - d_law_wd_times.np) none) (m ++ List.replicate d_law_wd_times.nc .nil) = .ok (.ret (.vl (.dat (wd [])))) (m ++ [.nil]) := by
        simp [d_law_wd_times, b_law_wd_times, x_nil, x_cons, x_set, x_setT, x_par, x_ife, x_ret, x_retf, n_lst, n_call, x_newl, x_exp, bi_ok, bi_bad, of_some, lk_dat, lks_nil, lks_cons, do_nil, do_cons, op_some, ob_some, b_add, b_sub, c_lt, c_le, c_gt, c_ge, c_eqS, c_neS, c_eqI, c_neI, c_eqB, c_neB, c_eqT, c_neT, c_eqL, c_neL, c_isB, c_isntB, c_is, c_isnt, eq_int, eq_bl, eq_pair, t_bl, t_int, t_lst, t_tup, l_tup, l_lst, l_scr, l_abs, l_int, l_intB, l_max, l_min, l_tt, l_tl, l_all, l_any, l_repr, s_tup, s_lst, s_scr, i_tt, i_ii, i_ib, i_it, ix0, ix1, ix2, v_var, v_cst, v_glo, v_tup, v_lst, v_lsts, d_nil, d_star, d_one, l_max1, l_min1, l_sum, v_bin, v_neg, v_nt, v_cmp, v_chain, v_and, v_or, v_ite, v_sub, v_rev, v_call, v_blt, v_isi, v_comp, evs, evAnd, evOr, evIfs, evT, evTAnd, evTOr, parS, bi_asc, tgD, tgDs, wipeS, slotsOf, slotsOfs, szk, eqn, hp0]
        rfl
      have := ru_cut (f := d_law_wd_times) (vs := [.dat (wd p), .dat (wd [])]) (m := m) rfl rfl key
      simpa [mulW_nil'] using this
    · have lp := hp.ln
      have lq := hq.ln
      obtain ⟨d, d0, d1, hd⟩ := hp.dn
      obtain ⟨e, e0, e1, he⟩ := hq.dn
      have lp1 : 1 ≤ p.length := by have := List.length_pos_iff.mpr hp0; omega
      have lq1 : 1 ≤ q.length := by have := List.length_pos_iff.mpr hq0; omega
      obtain ⟨N, hN⟩ : ∃ N : Nat, p.length + q.length = N + 1 := ⟨p.length + q.length - 1, by omega⟩
      have hNi : (p.length : Int) + q.length - 1 = (N : Int) := by omega
      have key : exs W0 (callF W0 (lv + 2)) m.length d_law_wd_times.body (([.dat (wd p), .dat (wd q)] : List Vl).map some ++ List.replicate (d_law_wd_times.ns - d_law_wd_times.np) none) (m ++ List.replicate d_law_wd_times.nc .nil) = .ok (.ret (.vl (.dat (wd (mulW p q))))) (m ++ [.nil]) := by
        show exs W0 (callF W0 (lv + 2)) m.length b_law_wd_times [some (.dat (wd p)), some (.dat (wd q)), none, none, none, none, none] (m ++ [.nil]) = _
        unfold b_law_wd_times
        refine st1 (s' := [some (.dat (wd p)), some (.dat (wd q)), none, none, none, none, none]) (m' := m ++ [.nil]) (by simp [x_nil, x_cons, x_set, x_setT, x_par, x_ife, x_ret, x_retf, n_lst, n_call, x_newl, x_exp, bi_ok, bi_bad, of_some, lk_dat, lks_nil, lks_cons, do_nil, do_cons, op_some, ob_some, b_add, b_sub, c_lt, c_le, c_gt, c_ge, c_eqS, c_neS, c_eqI, c_neI, c_eqB, c_neB, c_eqT, c_neT, c_eqL, c_neL, c_isB, c_isntB, c_is, c_isnt, eq_int, eq_bl, eq_pair, t_bl, t_int, t_lst, t_tup, l_tup, l_lst, l_scr, l_abs, l_int, l_intB, l_max, l_min, l_tt, l_tl, l_all, l_any, l_repr, s_tup, s_lst, s_scr, i_tt, i_ii, i_ib, i_it, ix0, ix1, ix2, v_var, v_cst, v_glo, v_tup, v_lst, v_lsts, d_nil, d_star, d_one, l_max1, l_min1, l_sum, v_bin, v_neg, v_nt, v_cmp, v_chain, v_and, v_or, v_ite, v_sub, v_rev, v_call, v_blt, v_isi, v_comp, evs, evAnd, evOr, evIfs, evT, evTAnd, evTOr, parS, bi_asc, tgD, tgDs, wipeS, slotsOf, slotsOfs, szk, eqn, hp0, hq0]) ?_
        have nr := n_rep (W := W0) (C := callF W0 (lv + 2)) (a := .lst [(.tup [(.cst (.int 0)), (.cst (.int 1))])]) (b := .bin .Sub (.bin .Add (.blt .len [(.var 0)]) (.blt .len [(.var 1)])) (.cst (.int 1))) (s := [some (.dat (wd p)), some (.dat (wd q)), none, none, none, none, none]) (m := m ++ [.nil]) (xs := [.tup [.int 0, .int 1]]) (n := N) (by simp [x_nil, x_cons, x_set, x_setT, x_par, x_ife, x_ret, x_retf, n_lst, n_call, x_newl, x_exp, bi_ok, bi_bad, of_some, lk_dat, lks_nil, lks_cons, do_nil, do_cons, op_some, ob_some, b_add, b_sub, c_lt, c_le, c_gt, c_ge, c_eqS, c_neS, c_eqI, c_neI, c_eqB, c_neB, c_eqT, c_neT, c_eqL, c_neL, c_isB, c_isntB, c_is, c_isnt, eq_int, eq_bl, eq_pair, t_bl, t_int, t_lst, t_tup, l_tup, l_lst, l_scr, l_abs, l_int, l_intB, l_max, l_min, l_tt, l_tl, l_all, l_any, l_repr, s_tup, s_lst, s_scr, i_tt, i_ii, i_ib, i_it, ix0, ix1, ix2, v_var, v_cst, v_glo, v_tup, v_lst, v_lsts, d_nil, d_star, d_one, l_max1, l_min1, l_sum, v_bin, v_neg, v_nt, v_cmp, v_chain, v_and, v_or, v_ite, v_sub, v_rev, v_call, v_blt, v_isi, v_comp, evs, evAnd, evOr, evIfs, evT, evTAnd, evTOr, parS, bi_asc, tgD, tgDs, wipeS, slotsOf, slotsOfs, szk]) (by simp [x_nil, x_cons, x_set, x_setT, x_par, x_ife, x_ret, x_retf, n_lst, n_call, x_newl, x_exp, bi_ok, bi_bad, of_some, lk_dat, lks_nil, lks_cons, do_nil, do_cons, op_some, ob_some, b_add, b_sub, c_lt, c_le, c_gt, c_ge, c_eqS, c_neS, c_eqI, c_neI, c_eqB, c_neB, c_eqT, c_neT, c_eqL, c_neL, c_isB, c_isntB, c_is, c_isnt, eq_int, eq_bl, eq_pair, t_bl, t_int, t_lst, t_tup, l_tup, l_lst, l_scr, l_abs, l_int, l_intB, l_max, l_min, l_tt, l_tl, l_all, l_any, l_repr, s_tup, s_lst, s_scr, i_tt, i_ii, i_ib, i_it, ix0, ix1, ix2, v_var, v_cst, v_glo, v_tup, v_lst, v_lsts, d_nil, d_star, d_one, l_max1, l_min1, l_sum, v_bin, v_neg, v_nt, v_cmp, v_chain, v_and, v_or, v_ite, v_sub, v_rev, v_call, v_blt, v_isi, v_comp, evs, evAnd, evOr, evIfs, evT, evTAnd, evTOr, parS, bi_asc, tgD, tgDs, wipeS, slotsOf, slotsOfs, szk, l_wd, hNi]) (by decide) (by omega)
        rw [times1] at nr
        refine st1 (s' := [some (.dat (wd p)), some (.dat (wd q)), some (.loc m.length), none, none, none, none]) (m' := m ++ [.lst ((List.replicate N 0).map fr)]) (by
          rw [x_newl, nr, bi_ok]
          simp [EV.freeOf, fr0]) ?_
        rw [x_cons]
        refine bind_for (enc := fun x : Rat × Nat => D.tup [.int (x.2 : Nat), fr x.1]) (fun r s mm => ∃ (i : Nat) (p' f : List Rat) (x3 x4 x5 x6 : Option Vl), s = [some (.dat (wd p)), some (.dat (wd q)), some (.loc m.length), x3, x4, x5, x6] ∧ mm = m ++ [.lst (f.map fr)] ∧ r = p'.zipIdx i ∧ i + p'.length = p.length ∧ (∀ x ∈ p', ∃ u : Int, u.natAbs < 2 ^ k ∧ x = (u : Rat) / (d : Rat)) ∧ f.length = N ∧ Pd (d * e) ((i * q.length) * 2 ^ (k + k')) f ∧
          (∀ n, cf f n + late i (cf (mulL p' q)) n = cf (mulL p q) n)) p.zipIdx rfl rfl (wd_enumT p) ?_ ?_ ?_ ?_
        · rw [List.length_zipIdx]; omega
        · refine ⟨0, p, List.replicate N 0, none, none, none, none, rfl, rfl, rfl, by omega, fun x hx => by obtain ⟨n, rfl⟩ := cf_mem hx; exact hd n, by simp, fun n => ?_, fun n => ?_⟩
          · have e5 := cf_rep N [] n
            rw [List.append_nil] at e5
            have z : late N (cf []) n = 0 := by unfold late; split <;> rfl
            exact ⟨0, by simp, by rw [e5, z]; simp [zdiv]⟩
          · have e := cf_rep N [] n
            rw [List.append_nil] at e
            have z : late N (cf []) n = 0 := by unfold late; split <;> rfl
            rw [e, z, late_zero, Rat.zero_add]
        · rintro x r s mm ⟨i, p', f, x3, x4, x5, x6, rfl, rfl, er, hi, h1, h2, h3, h4⟩
          cases p' with
          | nil => cases er
          | cons a p' =>
            rw [List.zipIdx_cons] at er
            cases er
            rw [List.length_cons] at hi
            have hm1 : (i + 1) * q.length ≤ l * l' := Nat.mul_le_mul (by omega) lq
            have hm2 : (i + 1) * q.length = i * q.length + q.length := by rw [Nat.add_mul, Nat.one_mul]
            have hm3 : (i * q.length + q.length + 1) * 2 ^ (k + k') < 2 ^ 4400 := by
              have h6 : l * l' < 2 ^ (l + l') := by rw [Nat.pow_add]; exact Nat.mul_lt_mul'' Nat.lt_two_pow_self Nat.lt_two_pow_self
              have h7 : (i * q.length + q.length + 1) * 2 ^ (k + k') ≤ 2 ^ (l + l') * 2 ^ (k + k') := Nat.mul_le_mul_right _ (by omega)
              rw [← Nat.pow_add] at h7
              exact Nat.lt_of_le_of_lt h7 (Nat.pow_lt_pow_right (by decide) (by omega))
            obtain ⟨f', x5', x6', e9, g1, g2, g3⟩ := timesC_in lv k k' d e m p q a i (i * q.length) f (cf (mulL p q)) (late (i + 1) (cf (mulL p' q))) x5 x6 N d0 e0 d1 e1 (h1 a List.mem_cons_self) (fun x hx => by obtain ⟨n, rfl⟩ := cf_mem hx; exact he n) h2 (by omega) (by omega) (by omega) hm3 h3 (fun n => by
              rw [Rat.add_assoc, ← late_mulL]
              exact h4 n)
            refine ⟨_, _, ?_, i + 1, p', f', some (.dat (.int i)), some (.dat (fr a)), x5', x6', rfl, rfl, rfl, by omega, fun y hy => h1 y (List.mem_cons_of_mem _ hy), g1, g2.mono (by rw [hm2]; exact Nat.le_refl _), g3⟩
            unfold forStep
            simp [tgD, tgDs, x_nil, x_cons, x_set, x_setT, x_par, x_ife, x_ret, x_retf, n_lst, n_call, x_newl, x_exp, bi_ok, bi_bad, of_some, lk_dat, lks_nil, lks_cons, do_nil, do_cons, op_some, ob_some, b_add, b_sub, c_lt, c_le, c_gt, c_ge, c_eqS, c_neS, c_eqI, c_neI, c_eqB, c_neB, c_eqT, c_neT, c_eqL, c_neL, c_isB, c_isntB, c_is, c_isnt, eq_int, eq_bl, eq_pair, t_bl, t_int, t_lst, t_tup, l_tup, l_lst, l_scr, l_abs, l_int, l_intB, l_max, l_min, l_tt, l_tl, l_all, l_any, l_repr, s_tup, s_lst, s_scr, i_tt, i_ii, i_ib, i_it, ix0, ix1, ix2, v_var, v_cst, v_glo, v_tup, v_lst, v_lsts, d_nil, d_star, d_one, l_max1, l_min1, l_sum, v_bin, v_neg, v_nt, v_cmp, v_chain, v_and, v_or, v_ite, v_sub, v_rev, v_call, v_blt, v_isi, v_comp, evs, evAnd, evOr, evIfs, evT, evTAnd, evTOr, parS, bi_asc, tgD, tgDs, wipeS, slotsOf, slotsOfs, szk, e9]
        · rintro s mm ⟨i, p', f, x3, x4, x5, x6, rfl, rfl, er, hi, h1, h2, h3, h4⟩
          have e0 : p' = [] := by
            cases p' with
            | nil => rfl
            | cons => rw [List.zipIdx_cons] at er; cases er
          subst e0
          have ef : cut f = mulW p q := trim_eq (trim_cut _) (trim_cut _) fun n => by
            have h := h4 n
            have z : late i (cf (mulL [] q)) n = 0 := by
              unfold late
              split <;> rfl
            rw [z, Rat.add_zero] at h
            rw [cf_cut, h, mulW, cf_cut]
          have c := wd_cut_ok (lv + 1) (m ++ [.nil]) f (by omega)
          rw [ef] at c
          have la : locAt [some (.dat (wd p)), some (.dat (wd q)), some (.loc m.length), x3, x4, x5, x6] 2 = some m.length := rfl
          simp [x_nil, x_cons, x_set, x_setT, x_par, x_ife, x_ret, x_retf, n_lst, n_call, x_newl, x_exp, bi_ok, bi_bad, of_some, lk_dat, lks_nil, lks_cons, do_nil, do_cons, op_some, ob_some, b_add, b_sub, c_lt, c_le, c_gt, c_ge, c_eqS, c_neS, c_eqI, c_neI, c_eqB, c_neB, c_eqT, c_neT, c_eqL, c_neL, c_isB, c_isntB, c_is, c_isnt, eq_int, eq_bl, eq_pair, t_bl, t_int, t_lst, t_tup, l_tup, l_lst, l_scr, l_abs, l_int, l_intB, l_max, l_min, l_tt, l_tl, l_all, l_any, l_repr, s_tup, s_lst, s_scr, i_tt, i_ii, i_ib, i_it, ix0, ix1, ix2, v_var, v_cst, v_glo, v_tup, v_lst, v_lsts, d_nil, d_star, d_one, l_max1, l_min1, l_sum, v_bin, v_neg, v_nt, v_cmp, v_chain, v_and, v_or, v_ite, v_sub, v_rev, v_call, v_blt, v_isi, v_comp, evs, evAnd, evOr, evIfs, evT, evTAnd, evTOr, parS, bi_asc, tgD, tgDs, wipeS, slotsOf, slotsOfs, szk, x_frz, la, frz2, c]
      have := ru_cut (f := d_law_wd_times) (vs := [.dat (wd p), .dat (wd q)]) (m := m) rfl rfl key
      simpa using this
end K24

set_option Elab.async false
set_option linter.all false
set_option maxRecDepth 100000
set_option maxHeartbeats 1000000
set_option exponentiation.threshold 10000
namespace K24
open PySem EV POLY
theorem sc_if (a : Rat) {p : List Rat} (h : trim p) : (if a = 0 then [] else p.map (a * ·)) = scW a p := by
  split
  · rename_i h0
    subst h0
    exact trim_eq trim_nil (tr_sc _ _) fun n => by rw [cf_scW, Rat.zero_mul]; rfl
  · rename_i h0
    exact (sc_ne h0 h).symm
theorem scC_ok (lv k l j : Nat) (m : Sto) (a : Rat) (p : List Rat) (ha : Nb j a) (hp : Cd k l p) (hj : j ≤ 4400) (hk : k ≤ 4400) (hl : l ≤ 1000) : callF W0 (lv + 4) 12 [.dat (fr a), .dat (wd p)] m = .ok (.vl (.dat (wd (scW a p)))) m := by
  have c := scaled_word_ok lv 4400 m a p (nb_bd ha hj) (cd_bd hp hk) (Nat.le_trans hp.ln hl) (by decide)
  rw [sc_if a hp.tr] at c
  exact c
theorem lessC_ok (lv k l k' l' : Nat) (m : Sto) (p q : List Rat) (hp : Cd k l p) (hq : Cd k' l' q) (hk : k ≤ 4400) (hk' : k' + 1 ≤ 4400) (hl : l ≤ 400) (hl' : l' ≤ 400) : callF W0 (lv + 5) 14 [.dat (wd p), .dat (wd q)] m = .ok (.vl (.dat (wd (subW p q)))) m := by
  rw [c_less_word]
  refine ru_dat rfl rfl rfl rfl ?_
  have c1 : callF W0 (lv + 4) 7 [.dat (.tup [.int 1, .int 1])] m = .ok (.vl (.dat (fr (-1)))) m := opposite_ok (lv + 3) m 1
  have c2 := scC_ok lv k' l' 1 m (-1) q nb_neg1 hq (by decide) (by omega) (by omega)
  have c3 := sumC_ok lv k l (k' + 1) l' m p (scW (-1) q) hp (hq.sc nb_neg1) hk hk' hl hl'
  simp [d_less_word, b_less_word, x_nil, x_cons, x_set, x_setT, x_par, x_ife, x_ret, x_retf, n_lst, n_call, x_newl, x_exp, bi_ok, bi_bad, of_some, lk_dat, lks_nil, lks_cons, do_nil, do_cons, op_some, ob_some, b_add, b_sub, c_lt, c_le, c_gt, c_ge, c_eqS, c_neS, c_eqI, c_neI, c_eqB, c_neB, c_eqT, c_neT, c_eqL, c_neL, c_isB, c_isntB, c_is, c_isnt, eq_int, eq_bl, eq_pair, t_bl, t_int, t_lst, t_tup, l_tup, l_lst, l_scr, l_abs, l_int, l_intB, l_max, l_min, l_tt, l_tl, l_all, l_any, l_repr, s_tup, s_lst, s_scr, i_tt, i_ii, i_ib, i_it, ix0, ix1, ix2, v_var, v_cst, v_glo, v_tup, v_lst, v_lsts, d_nil, d_star, d_one, l_max1, l_min1, l_sum, v_bin, v_neg, v_nt, v_cmp, v_chain, v_and, v_or, v_ite, v_sub, v_rev, v_call, v_blt, v_isi, v_comp, evs, evAnd, evOr, evIfs, evT, evTAnd, evTOr, parS, bi_asc, tgD, tgDs, wipeS, slotsOf, slotsOfs, szk, con_O, c1, c2, c3, subW]
theorem law_over_ok (lv k : Nat) (m : Sto) (p q : Rat) (h : q.num ≠ 0) (hp : Bd k p) (hq : Bd k q) (hk : 1 ≤ k ∧ 2 * k + 1 ≤ 8980) : callF W0 (lv + 2) 32 [.dat (fr p), .dat (fr q)] m = .ok (.vl (.dat (fr (p / q)))) m := by
  rw [c_law_over, div_div p q h]
  refine ru_dat rfl rfl rfl rfl ?_
  have hk' : 1 ≤ k ∧ k ≤ 8980 := by omega
  have m1 := ml hp.num hq.denI hk'
  have m2 := ml hp.denI hq.num hk'
  have hd := p.den_pos
  have r := law_fr_ok lv m (p.num * q.den) ((p.den : Int) * q.num) (Int.mul_ne_zero (by omega) h) ((hp.denI.mul hq.num).mono (by omega)) ((hp.num.mul hq.denI).mono (by omega))
  simp [d_law_over, b_law_over, x_nil, x_cons, x_set, x_setT, x_par, x_ife, x_ret, x_retf, n_lst, n_call, x_newl, x_exp, bi_ok, bi_bad, of_some, lk_dat, lks_nil, lks_cons, do_nil, do_cons, op_some, ob_some, b_add, b_sub, c_lt, c_le, c_gt, c_ge, c_eqS, c_neS, c_eqI, c_neI, c_eqB, c_neB, c_eqT, c_neT, c_eqL, c_neL, c_isB, c_isntB, c_is, c_isnt, eq_int, eq_bl, eq_pair, t_bl, t_int, t_lst, t_tup, l_tup, l_lst, l_scr, l_abs, l_int, l_intB, l_max, l_min, l_tt, l_tl, l_all, l_any, l_repr, s_tup, s_lst, s_scr, i_tt, i_ii, i_ib, i_it, ix0, ix1, ix2, v_var, v_cst, v_glo, v_tup, v_lst, v_lsts, d_nil, d_star, d_one, l_max1, l_min1, l_sum, v_bin, v_neg, v_nt, v_cmp, v_chain, v_and, v_or, v_ite, v_sub, v_rev, v_call, v_blt, v_isi, v_comp, evs, evAnd, evOr, evIfs, evT, evTAnd, evTOr, parS, bi_asc, tgD, tgDs, wipeS, slotsOf, slotsOfs, szk, s_fr0, s_fr1, b_mul m1, b_mul m2, r]
theorem law_sc_ok (lv k l j : Nat) (m : Sto) (a : Rat) (p : List Rat) (ha : Nb j a) (hp : Cd k l p) (hj : j ≤ 4400) (hk : k ≤ 4400) (hl : l ≤ 1000) : callF W0 (lv + 3) 35 [.dat (fr a), .dat (wd p)] m = .ok (.vl (.dat (wd (scW a p)))) m := by
  rw [c_law_wd_scaled]
  refine ru_dat rfl rfl rfl rfl ?_
  simp [d_law_wd_scaled, b_law_wd_scaled, x_nil, x_cons, x_set, x_setT, x_par, x_ife, x_ret, x_retf, n_lst, n_call, x_newl, x_exp, bi_ok, bi_bad, of_some, lk_dat, lks_nil, lks_cons, do_nil, do_cons, op_some, ob_some, b_add, b_sub, c_lt, c_le, c_gt, c_ge, c_eqS, c_neS, c_eqI, c_neI, c_eqB, c_neB, c_eqT, c_neT, c_eqL, c_neL, c_isB, c_isntB, c_is, c_isnt, eq_int, eq_bl, eq_pair, t_bl, t_int, t_lst, t_tup, l_tup, l_lst, l_scr, l_abs, l_int, l_intB, l_max, l_min, l_tt, l_tl, l_all, l_any, l_repr, s_tup, s_lst, s_scr, i_tt, i_ii, i_ib, i_it, ix0, ix1, ix2, v_var, v_cst, v_glo, v_tup, v_lst, v_lsts, d_nil, d_star, d_one, l_max1, l_min1, l_sum, v_bin, v_neg, v_nt, v_cmp, v_chain, v_and, v_or, v_ite, v_sub, v_rev, v_call, v_blt, v_isi, v_comp, evs, evAnd, evOr, evIfs, evT, evTAnd, evTOr, parS, bi_asc, tgD, tgDs, wipeS, slotsOf, slotsOfs, szk]
  refine bind_evC (enc := fr) (fun x => fr (a * x)) p rfl rfl rfl (Nat.le_trans hp.ln hl) (fun x hx => ?_) ?_
  · refine turn0 rfl ?_
    simp [x_nil, x_cons, x_set, x_setT, x_par, x_ife, x_ret, x_retf, n_lst, n_call, x_newl, x_exp, bi_ok, bi_bad, of_some, lk_dat, lks_nil, lks_cons, do_nil, do_cons, op_some, ob_some, b_add, b_sub, c_lt, c_le, c_gt, c_ge, c_eqS, c_neS, c_eqI, c_neI, c_eqB, c_neB, c_eqT, c_neT, c_eqL, c_neL, c_isB, c_isntB, c_is, c_isnt, eq_int, eq_bl, eq_pair, t_bl, t_int, t_lst, t_tup, l_tup, l_lst, l_scr, l_abs, l_int, l_intB, l_max, l_min, l_tt, l_tl, l_all, l_any, l_repr, s_tup, s_lst, s_scr, i_tt, i_ii, i_ib, i_it, ix0, ix1, ix2, v_var, v_cst, v_glo, v_tup, v_lst, v_lsts, d_nil, d_star, d_one, l_max1, l_min1, l_sum, v_bin, v_neg, v_nt, v_cmp, v_chain, v_and, v_or, v_ite, v_sub, v_rev, v_call, v_blt, v_isi, v_comp, evs, evAnd, evOr, evIfs, evT, evTAnd, evTOr, parS, bi_asc, tgD, tgDs, wipeS, slotsOf, slotsOfs, szk, law_times_ok _ 4400 _ a x (nb_bd ha hj) (cd_bd hp hk x hx) (by decide)]
  · have e : (p.map fun x => fr (a * x)) = (p.map (a * ·)).map fr := by rw [List.map_map]; rfl
    have c := wd_cut_ok (lv + 1) m (p.map (a * ·)) (by rw [List.length_map]; exact Nat.le_trans hp.ln hl)
    rw [e]
    simp only [x_nil, x_cons, x_set, x_setT, x_par, x_ife, x_ret, x_retf, n_lst, n_call, x_newl, x_exp, bi_ok, bi_bad, of_some, lk_dat, lks_nil, lks_cons, do_nil, do_cons, op_some, ob_some, b_add, b_sub, c_lt, c_le, c_gt, c_ge, c_eqS, c_neS, c_eqI, c_neI, c_eqB, c_neB, c_eqT, c_neT, c_eqL, c_neL, c_isB, c_isntB, c_is, c_isnt, eq_int, eq_bl, eq_pair, t_bl, t_int, t_lst, t_tup, l_tup, l_lst, l_scr, l_abs, l_int, l_intB, l_max, l_min, l_tt, l_tl, l_all, l_any, l_repr, s_tup, s_lst, s_scr, i_tt, i_ii, i_ib, i_it, ix0, ix1, ix2, v_var, v_cst, v_glo, v_tup, v_lst, v_lsts, d_nil, d_star, d_one, l_max1, l_min1, l_sum, v_bin, v_neg, v_nt, v_cmp, v_chain, v_and, v_or, v_ite, v_sub, v_rev, v_call, v_blt, v_isi, v_comp, evs, evAnd, evOr, evIfs, evT, evTAnd, evTOr, parS, bi_asc, tgD, tgDs, wipeS, slotsOf, slotsOfs, szk, c]
    simp [x_nil, x_cons, x_set, x_setT, x_par, x_ife, x_ret, x_retf, n_lst, n_call, x_newl, x_exp, bi_ok, bi_bad, of_some, lk_dat, lks_nil, lks_cons, do_nil, do_cons, op_some, ob_some, b_add, b_sub, c_lt, c_le, c_gt, c_ge, c_eqS, c_neS, c_eqI, c_neI, c_eqB, c_neB, c_eqT, c_neT, c_eqL, c_neL, c_isB, c_isntB, c_is, c_isnt, eq_int, eq_bl, eq_pair, t_bl, t_int, t_lst, t_tup, l_tup, l_lst, l_scr, l_abs, l_int, l_intB, l_max, l_min, l_tt, l_tl, l_all, l_any, l_repr, s_tup, s_lst, s_scr, i_tt, i_ii, i_ib, i_it, ix0, ix1, ix2, v_var, v_cst, v_glo, v_tup, v_lst, v_lsts, d_nil, d_star, d_one, l_max1, l_min1, l_sum, v_bin, v_neg, v_nt, v_cmp, v_chain, v_and, v_or, v_ite, v_sub, v_rev, v_call, v_blt, v_isi, v_comp, evs, evAnd, evOr, evIfs, evT, evTAnd, evTOr, parS, bi_asc, tgD, tgDs, wipeS, slotsOf, slotsOfs, szk, scW]
theorem law_minus_ok (lv k l k' l' : Nat) (m : Sto) (p q : List Rat) (hp : Cd k l p) (hq : Cd k' l' q) (hk : k ≤ 4400) (hk' : k' + 1 ≤ 4400) (hl : l ≤ 400) (hl' : l' ≤ 400) : callF W0 (lv + 4) 36 [.dat (wd p), .dat (wd q)] m = .ok (.vl (.dat (wd (subW p q)))) m := by
  rw [c_law_wd_minus]
  refine ru_dat rfl rfl rfl rfl ?_
  have c2 : callF W0 (lv + 3) 35 [.dat (.tup [.int (-1), .int 1]), .dat (wd q)] m = .ok (.vl (.dat (wd (scW (-1) q)))) m := law_sc_ok lv k' l' 1 m (-1) q nb_neg1 hq (by decide) (by omega) (by omega)
  have c3 := plusC_ok lv k l (k' + 1) l' m p (scW (-1) q) hp (hq.sc nb_neg1) hk hk' hl hl'
  simp [d_law_wd_minus, b_law_wd_minus, x_nil, x_cons, x_set, x_setT, x_par, x_ife, x_ret, x_retf, n_lst, n_call, x_newl, x_exp, bi_ok, bi_bad, of_some, lk_dat, lks_nil, lks_cons, do_nil, do_cons, op_some, ob_some, b_add, b_sub, c_lt, c_le, c_gt, c_ge, c_eqS, c_neS, c_eqI, c_neI, c_eqB, c_neB, c_eqT, c_neT, c_eqL, c_neL, c_isB, c_isntB, c_is, c_isnt, eq_int, eq_bl, eq_pair, t_bl, t_int, t_lst, t_tup, l_tup, l_lst, l_scr, l_abs, l_int, l_intB, l_max, l_min, l_tt, l_tl, l_all, l_any, l_repr, s_tup, s_lst, s_scr, i_tt, i_ii, i_ib, i_it, ix0, ix1, ix2, v_var, v_cst, v_glo, v_tup, v_lst, v_lsts, d_nil, d_star, d_one, l_max1, l_min1, l_sum, v_bin, v_neg, v_nt, v_cmp, v_chain, v_and, v_or, v_ite, v_sub, v_rev, v_call, v_blt, v_isi, v_comp, evs, evAnd, evOr, evIfs, evT, evTAnd, evTOr, parS, bi_asc, tgD, tgDs, wipeS, slotsOf, slotsOfs, szk, c2, c3, subW]
theorem law_later_ok (lv : Nat) (m : Sto) (p : List Rat) (j : Nat) (h : p.length + j ≤ 1000) : callF W0 (lv + 1) 37 [.dat (wd p), .dat (.int j)] m = .ok (.vl (.dat (wd (if p = [] then [] else List.replicate j 0 ++ p)))) m := by
  rw [c_law_wd_later]
  refine ru_dat rfl rfl rfl rfl ?_
  simp only [d_law_wd_later, b_law_wd_later]
  by_cases h0 : p = []
  · simp [x_nil, x_cons, x_set, x_setT, x_par, x_ife, x_ret, x_retf, n_lst, n_call, x_newl, x_exp, bi_ok, bi_bad, of_some, lk_dat, lks_nil, lks_cons, do_nil, do_cons, op_some, ob_some, b_add, b_sub, c_lt, c_le, c_gt, c_ge, c_eqS, c_neS, c_eqI, c_neI, c_eqB, c_neB, c_eqT, c_neT, c_eqL, c_neL, c_isB, c_isntB, c_is, c_isnt, eq_int, eq_bl, eq_pair, t_bl, t_int, t_lst, t_tup, l_tup, l_lst, l_scr, l_abs, l_int, l_intB, l_max, l_min, l_tt, l_tl, l_all, l_any, l_repr, s_tup, s_lst, s_scr, i_tt, i_ii, i_ib, i_it, ix0, ix1, ix2, v_var, v_cst, v_glo, v_tup, v_lst, v_lsts, d_nil, d_star, d_one, l_max1, l_min1, l_sum, v_bin, v_neg, v_nt, v_cmp, v_chain, v_and, v_or, v_ite, v_sub, v_rev, v_call, v_blt, v_isi, v_comp, evs, evAnd, evOr, evIfs, evT, evTAnd, evTOr, parS, bi_asc, tgD, tgDs, wipeS, slotsOf, slotsOfs, szk, nen, h0]
    rfl
  · have m1 := m_nought (j := j) (by omega)
    have a1 := a_wd' (p := p) (j := j) (by omega)
    simp [x_nil, x_cons, x_set, x_setT, x_par, x_ife, x_ret, x_retf, n_lst, n_call, x_newl, x_exp, bi_ok, bi_bad, of_some, lk_dat, lks_nil, lks_cons, do_nil, do_cons, op_some, ob_some, b_add, b_sub, c_lt, c_le, c_gt, c_ge, c_eqS, c_neS, c_eqI, c_neI, c_eqB, c_neB, c_eqT, c_neT, c_eqL, c_neL, c_isB, c_isntB, c_is, c_isnt, eq_int, eq_bl, eq_pair, t_bl, t_int, t_lst, t_tup, l_tup, l_lst, l_scr, l_abs, l_int, l_intB, l_max, l_min, l_tt, l_tl, l_all, l_any, l_repr, s_tup, s_lst, s_scr, i_tt, i_ii, i_ib, i_it, ix0, ix1, ix2, v_var, v_cst, v_glo, v_tup, v_lst, v_lsts, d_nil, d_star, d_one, l_max1, l_min1, l_sum, v_bin, v_neg, v_nt, v_cmp, v_chain, v_and, v_or, v_ite, v_sub, v_rev, v_call, v_blt, v_isi, v_comp, evs, evAnd, evOr, evIfs, evT, evTAnd, evTOr, parS, bi_asc, tgD, tgDs, wipeS, slotsOf, slotsOfs, szk, nen, h0, m1, a1]
/-! ### division -/
theorem whl_dv {f : Slots → Sto → R (Out × Bool)} {m : Sto} {y : List Rat} (hy : trim y) (y0 : y ≠ []) (Q : List Rat → List Rat → Slots → Prop) (hs : ∀ t r s, Q t r s → r.length < y.length → f s m = .ok (.nx s, false) m)
    (hg : ∀ t r s, Q t r s → y.length ≤ r.length → ∃ s', f s m = .ok (.nx s', true) m ∧ Q (addW t (prt y r)) (dst y r) s') : ∀ (k n : Nat) (t r : List Rat) (s : Slots), Q t r s → r.length < k → k ≤ n → ∃ s', whlF n f s m = .ok (.nx s') m ∧ Q (dvl y k t r).1 (dvl y k t r).2 s'
  | 0, _, _, _, _, _, h, _ => by omega
  | k + 1, 0, _, _, _, _, _, h => by omega
  | k + 1, n + 1, t, r, s, q, h1, h2 => by
    unfold whlF dvl
    by_cases c : r.length < y.length
    · rw [if_pos c, hs t r s q c]
      exact ⟨s, rfl, q⟩
    · rw [if_neg c]
      obtain ⟨s', e, q'⟩ := hg t r s q (Nat.le_of_not_lt c)
      rw [e]
      have hd := len_dst hy y0 (Nat.le_of_not_lt c)
      exact whl_dv hy y0 Q hs hg k n _ _ s' q' (by omega) (by omega)
theorem bind_dv {β : Type} {f : Slots → Sto → R (Out × Bool)} {m : Sto} {y x : List Rat} {s : Slots} {g : Out → Sto → R β} {z : R β} (hy : trim y) (y0 : y ≠ []) (Q : List Rat → List Rat → Slots → Prop) (h0 : Q [] x s) (hx : x.length ≤ 1000) (hs : ∀ t r s, Q t r s → r.length < y.length → f s m = .ok (.nx s, false) m)
    (hg : ∀ t r s, Q t r s → y.length ≤ r.length → ∃ s', f s m = .ok (.nx s', true) m ∧ Q (addW t (prt y r)) (dst y r) s') (k : ∀ s', Q (divW x y).1 (divW x y).2 s' → g (.nx s') m = z) : (whlF whlMost f s m).bind g = z := by
  obtain ⟨s', e, q⟩ := whl_dv hy y0 Q hs hg (x.length + 1) whlMost [] x s h0 (by omega) (by
    have : whlMost = 1099511627776 := by decide
    omega)
  rw [e, bi_ok]
  exact k s' q
theorem len_scale {s r y : List Rat} (hs : trim s) (s0 : s ≠ []) (hr : trim r) (hy : trim y) (y0 : y ≠ []) : (mulW s y).length ≤ (mulW s r).length ↔ y.length ≤ r.length := by
  have l1 := (mul_ne hs hy s0 y0).1
  have p1 := List.length_pos_iff.mpr s0
  have p2 := List.length_pos_iff.mpr y0
  by_cases r0 : r = []
  · subst r0
    rw [mulW_nil', l1]
    show s.length + y.length - 1 ≤ 0 ↔ y.length ≤ 0
    omega
  · have l2 := (mul_ne hs hr s0 r0).1
    have p3 := List.length_pos_iff.mpr r0
    omega
theorem s_lc {p : List Rat} (h : p ≠ []) : subD (wd p) (.int (-1)) = some (fr (lc p)) := by rw [s_last h, lc_last h]
theorem num_ne {q : Rat} (h : q ≠ 0) : q.num ≠ 0 := fun z => h (Rat.num_eq_zero.mp z)
theorem lead_q {s r y : List Rat} (hs : trim s) (s0 : s ≠ []) (hr : trim r) (r0 : r ≠ []) (hy : trim y) (y0 : y ≠ []) : 1 / lc (mulW s y) * lc (mulW s r) = lc r / lc y ∧ lc (mulW s r) / lc (mulW s y) = lc r / lc y := by
  rw [(mul_ne hs hr s0 r0).2.1, (mul_ne hs hy s0 y0).2.1]
  have h1 := lc_ne hs s0
  have h2 := lc_ne hy y0
  constructor <;> grind
theorem dst_scale (s r y : List Rat) : subW (mulW s r) (mulW (prt y r) (mulW s y)) = mulW s (dst y r) := by
  rw [dst, mulW_subW, ← mulW_assoc, mulW_comm (prt y r) s, mulW_assoc]
theorem divided_word_ok (lv kx ky KT KR : Nat) (m : Sto) (s x y : List Rat) (hs : Cd 3 4 s) (s0 : s ≠ []) (hx : Cd kx 5 x) (hy : Cd ky 5 y) (y0 : y ≠ []) (hT : 1 + Pt (x.length + 1 - y.length) kx ky ≤ KT) (hR : kx + (x.length + 1 - y.length) * (ky + 1) ≤ KR) (h1 : KT ≤ 4300) (h2 : KR + 2 * ky + 60 ≤ 4400) :
    callF W0 (lv + 6) 17 [.dat (wd (mulW s x)), .dat (wd (mulW s y))] m = .ok (.vl (.dat (.tup [wd (divW x y).1, wd (mulW s (divW x y).2)]))) m := by
  rw [c_divided_word]
  refine ru_dat rfl rfl rfl rfl ?_
  simp only [d_divided_word, b_divided_word]
  have hsy := mul_ne hs.tr hy.tr s0 y0
  have csy := hs.mul hy
  have sl := s_lc hsy.2.2
  have hlne := lc_ne (tr_mul s y) hsy.2.2
  have c1 : callF W0 (lv + 5) 8 [.dat (.tup [.int 1, .int 1]), .dat (fr (lc (mulW s y)))] m = .ok (.vl (.dat (fr (1 / lc (mulW s y))))) m := divided_ok (lv + 2) 4400 m 1 (lc (mulW s y)) (num_ne hlne) (nb_bd nb_one (by decide)) (nb_bd csy.lead (by omega)) (by decide)
  refine st1 (s' := [some (.dat (wd (mulW s x))), some (.dat (wd (mulW s y))), some (.dat (wd [])), some (.dat (fr (1 / lc (mulW s y)))), none]) (m' := m) (by simp [x_nil, x_cons, x_set, x_setT, x_par, x_ife, x_ret, x_retf, n_lst, n_call, x_newl, x_exp, bi_ok, bi_bad, of_some, lk_dat, lks_nil, lks_cons, do_nil, do_cons, op_some, ob_some, b_add, b_sub, c_lt, c_le, c_gt, c_ge, c_eqS, c_neS, c_eqI, c_neI, c_eqB, c_neB, c_eqT, c_neT, c_eqL, c_neL, c_isB, c_isntB, c_is, c_isnt, eq_int, eq_bl, eq_pair, t_bl, t_int, t_lst, t_tup, l_tup, l_lst, l_scr, l_abs, l_int, l_intB, l_max, l_min, l_tt, l_tl, l_all, l_any, l_repr, s_tup, s_lst, s_scr, i_tt, i_ii, i_ib, i_it, ix0, ix1, ix2, v_var, v_cst, v_glo, v_tup, v_lst, v_lsts, d_nil, d_star, d_one, l_max1, l_min1, l_sum, v_bin, v_neg, v_nt, v_cmp, v_chain, v_and, v_or, v_ite, v_sub, v_rev, v_call, v_blt, v_isi, v_comp, evs, evAnd, evOr, evIfs, evT, evTAnd, evTOr, parS, bi_asc, tgD, tgDs, wipeS, slotsOf, slotsOfs, szk, con_O, sl, c1]; rfl) ?_
  rw [x_cons, x_whl]
  refine bind_dv (x := x) hy.tr y0 (fun t r st => ∃ x4, st = [some (.dat (wd (mulW s r))), some (.dat (wd (mulW s y))), some (.dat (wd t)), some (.dat (fr (1 / lc (mulW s y)))), x4] ∧ Bs y ky KT KR t r) ⟨none, rfl, ?_⟩ (by have := hx.ln; omega) ?_ ?_ ?_
  · exact ⟨1, kx, x.length + 1 - y.length, Cd.nil 1 5 (by decide), hx, by omega, hT, hR⟩
  · rintro t r st ⟨x4, rfl, hb⟩ hl
    have hn : ¬ (mulW s y).length ≤ (mulW s r).length := fun z => by
      have := (len_scale hs.tr s0 hb.r.tr hy.tr y0).mp z
      omega
    simp [whlStep, x_nil, x_cons, x_set, x_setT, x_par, x_ife, x_ret, x_retf, n_lst, n_call, x_newl, x_exp, bi_ok, bi_bad, of_some, lk_dat, lks_nil, lks_cons, do_nil, do_cons, op_some, ob_some, b_add, b_sub, c_lt, c_le, c_gt, c_ge, c_eqS, c_neS, c_eqI, c_neI, c_eqB, c_neB, c_eqT, c_neT, c_eqL, c_neL, c_isB, c_isntB, c_is, c_isnt, eq_int, eq_bl, eq_pair, t_bl, t_int, t_lst, t_tup, l_tup, l_lst, l_scr, l_abs, l_int, l_intB, l_max, l_min, l_tt, l_tl, l_all, l_any, l_repr, s_tup, s_lst, s_scr, i_tt, i_ii, i_ib, i_it, ix0, ix1, ix2, v_var, v_cst, v_glo, v_tup, v_lst, v_lsts, d_nil, d_star, d_one, l_max1, l_min1, l_sum, v_bin, v_neg, v_nt, v_cmp, v_chain, v_and, v_or, v_ite, v_sub, v_rev, v_call, v_blt, v_isi, v_comp, evs, evAnd, evOr, evIfs, evT, evTAnd, evTOr, parS, bi_asc, tgD, tgDs, wipeS, slotsOf, slotsOfs, szk, l_wd, hn]
  · rintro t r st ⟨x4, rfl, hb⟩ hl
    have hn := (len_scale hs.tr s0 hb.r.tr hy.tr y0).mpr hl
    have r0 : r ≠ [] := fun z => by
      subst z
      have h' : y.length ≤ 0 := hl
      have := List.length_pos_iff.mpr y0
      omega
    have hsr := mul_ne hs.tr hb.r.tr s0 r0
    have csr := hs.mul hb.r
    have slr := s_lc hsr.2.2
    have hd : ((mulW s r).length : Int) - (mulW s y).length = ((r.length - y.length : Nat) : Int) := by
      rw [hsr.1, hsy.1]
      have p1 := List.length_pos_iff.mpr s0
      have p2 := List.length_pos_iff.mpr y0
      omega
    have hp := hb.p hy y0 hl
    have b1 : Bd 4400 (1 / lc (mulW s y)) := nb_bd (nb_one.div csy.lead hlne) (by omega)
    have c3 := multiplied_ok (lv + 2) 4400 m (1 / lc (mulW s y)) (lc (mulW s r)) b1 (nb_bd csr.lead (by omega)) (by decide)
    rw [(lead_q hs.tr s0 hb.r.tr r0 hy.tr y0).1] at c3
    have c4 : callF W0 (lv + 5) 15 [.dat (.tup [fr (lc r / lc y)]), .dat (.int ((r.length - y.length : Nat) : Int))] m = .ok (.vl (.dat (wd (prt y r)))) m := by
      have := later_word_ok (lv + 4) m [lc r / lc y] (r.length - y.length) (by have := hb.r.ln; simp; omega)
      rw [if_neg (by simp)] at this
      exact this
    rw [← hd] at c4
    have c5 := sumC_ok (lv + 1) KT 5 KR 5 m t (prt y r) hb.t hp (by omega) (by omega) (by decide) (by decide)
    have c6 := productC_ok lv KR 5 (3 + ky + 4) (4 + 5) m (prt y r) (mulW s y) hp csy (by omega) (by decide)
    have c7 := lessC_ok lv (3 + KR + 4) (4 + 5) (KR + (3 + ky + 4) + 5) (5 + (4 + 5)) m (mulW s r) (mulW (prt y r) (mulW s y)) csr (hp.mul csy) (by omega) (by omega) (by decide) (by decide)
    rw [dst_scale] at c7
    refine ⟨[some (.dat (wd (mulW s (dst y r)))), some (.dat (wd (mulW s y))), some (.dat (wd (addW t (prt y r)))), some (.dat (fr (1 / lc (mulW s y)))), some (.dat (wd (prt y r)))], ?_, some (.dat (wd (prt y r))), rfl, hb.step hy y0 hl⟩
    simp [whlStep, x_nil, x_cons, x_set, x_setT, x_par, x_ife, x_ret, x_retf, n_lst, n_call, x_newl, x_exp, bi_ok, bi_bad, of_some, lk_dat, lks_nil, lks_cons, do_nil, do_cons, op_some, ob_some, b_add, b_sub, c_lt, c_le, c_gt, c_ge, c_eqS, c_neS, c_eqI, c_neI, c_eqB, c_neB, c_eqT, c_neT, c_eqL, c_neL, c_isB, c_isntB, c_is, c_isnt, eq_int, eq_bl, eq_pair, t_bl, t_int, t_lst, t_tup, l_tup, l_lst, l_scr, l_abs, l_int, l_intB, l_max, l_min, l_tt, l_tl, l_all, l_any, l_repr, s_tup, s_lst, s_scr, i_tt, i_ii, i_ib, i_it, ix0, ix1, ix2, v_var, v_cst, v_glo, v_tup, v_lst, v_lsts, d_nil, d_star, d_one, l_max1, l_min1, l_sum, v_bin, v_neg, v_nt, v_cmp, v_chain, v_and, v_or, v_ite, v_sub, v_rev, v_call, v_blt, v_isi, v_comp, evs, evAnd, evOr, evIfs, evT, evTAnd, evTOr, parS, bi_asc, tgD, tgDs, wipeS, slotsOf, slotsOfs, szk, l_wd, hn, slr, c3, c4, c5, c6, c7]
  · rintro st ⟨x4, rfl, hb⟩
    simp [x_nil, x_cons, x_set, x_setT, x_par, x_ife, x_ret, x_retf, n_lst, n_call, x_newl, x_exp, bi_ok, bi_bad, of_some, lk_dat, lks_nil, lks_cons, do_nil, do_cons, op_some, ob_some, b_add, b_sub, c_lt, c_le, c_gt, c_ge, c_eqS, c_neS, c_eqI, c_neI, c_eqB, c_neB, c_eqT, c_neT, c_eqL, c_neL, c_isB, c_isntB, c_is, c_isnt, eq_int, eq_bl, eq_pair, t_bl, t_int, t_lst, t_tup, l_tup, l_lst, l_scr, l_abs, l_int, l_intB, l_max, l_min, l_tt, l_tl, l_all, l_any, l_repr, s_tup, s_lst, s_scr, i_tt, i_ii, i_ib, i_it, ix0, ix1, ix2, v_var, v_cst, v_glo, v_tup, v_lst, v_lsts, d_nil, d_star, d_one, l_max1, l_min1, l_sum, v_bin, v_neg, v_nt, v_cmp, v_chain, v_and, v_or, v_ite, v_sub, v_rev, v_call, v_blt, v_isi, v_comp, evs, evAnd, evOr, evIfs, evT, evTAnd, evTOr, parS, bi_asc, tgD, tgDs, wipeS, slotsOf, slotsOfs, szk]
end K24

set_option Elab.async false
set_option linter.all false
set_option maxRecDepth 100000
set_option maxHeartbeats 1000000
set_option exponentiation.threshold 10000
namespace K24
open PySem EV POLY
theorem cd_dn {k l : Nat} {p : List Rat} (h : Cd k l p) (hk : k ≤ 4400) : ∀ x ∈ p, x.den < 2 ^ 8980 := fun x hx => (cd_bd h hk x hx).dn (by decide)
theorem shortC_ok (lv k l : Nat) (m : Sto) (p : List Rat) (hp : Cd k l p) (hk : k ≤ 4400) (hl : l ≤ 201) : callF W0 (lv + 4) 18 [.dat (wd p)] m = .ok (.vl (.dat (.bl true))) m := by
  rw [c_is_short_word]
  refine ru_dat rfl rfl rfl rfl ?_
  have c := is_plain_word_ok lv m p hp.tr (by have := hp.ln; omega) (cd_dn hp hk)
  simp [d_is_short_word, b_is_short_word, x_nil, x_cons, x_set, x_setT, x_par, x_ife, x_ret, x_retf, n_lst, n_call, x_newl, x_exp, bi_ok, bi_bad, of_some, lk_dat, lks_nil, lks_cons, do_nil, do_cons, op_some, ob_some, b_add, b_sub, c_lt, c_le, c_gt, c_ge, c_eqS, c_neS, c_eqI, c_neI, c_eqB, c_neB, c_eqT, c_neT, c_eqL, c_neL, c_isB, c_isntB, c_is, c_isnt, eq_int, eq_bl, eq_pair, t_bl, t_int, t_lst, t_tup, l_tup, l_lst, l_scr, l_abs, l_int, l_intB, l_max, l_min, l_tt, l_tl, l_all, l_any, l_repr, s_tup, s_lst, s_scr, i_tt, i_ii, i_ib, i_it, ix0, ix1, ix2, v_var, v_cst, v_glo, v_tup, v_lst, v_lsts, d_nil, d_star, d_one, l_max1, l_min1, l_sum, v_bin, v_neg, v_nt, v_cmp, v_chain, v_and, v_or, v_ite, v_sub, v_rev, v_call, v_blt, v_isi, v_comp, evs, evAnd, evOr, evIfs, evT, evTAnd, evTOr, parS, bi_asc, tgD, tgDs, wipeS, slotsOf, slotsOfs, szk, c, l_wd, con_D]
  have := hp.ln
  omega
theorem reqC_ok (lv k l : Nat) (m : Sto) (p : List Rat) (hp : Cd k l p) (hk : k ≤ 4400) (hl : l ≤ 201) : callF W0 (lv + 5) 19 [.dat (wd p)] m = .ok (.vl (.dat .non)) m := by
  rw [c_require_word]
  refine ru_non rfl rfl rfl (s' := [some (.dat (wd p))]) rfl ?_
  simp [d_require_word, b_require_word, x_nil, x_cons, x_set, x_setT, x_par, x_ife, x_ret, x_retf, n_lst, n_call, x_newl, x_exp, bi_ok, bi_bad, of_some, lk_dat, lks_nil, lks_cons, do_nil, do_cons, op_some, ob_some, b_add, b_sub, c_lt, c_le, c_gt, c_ge, c_eqS, c_neS, c_eqI, c_neI, c_eqB, c_neB, c_eqT, c_neT, c_eqL, c_neL, c_isB, c_isntB, c_is, c_isnt, eq_int, eq_bl, eq_pair, t_bl, t_int, t_lst, t_tup, l_tup, l_lst, l_scr, l_abs, l_int, l_intB, l_max, l_min, l_tt, l_tl, l_all, l_any, l_repr, s_tup, s_lst, s_scr, i_tt, i_ii, i_ib, i_it, ix0, ix1, ix2, v_var, v_cst, v_glo, v_tup, v_lst, v_lsts, d_nil, d_star, d_one, l_max1, l_min1, l_sum, v_bin, v_neg, v_nt, v_cmp, v_chain, v_and, v_or, v_ite, v_sub, v_rev, v_call, v_blt, v_isi, v_comp, evs, evAnd, evOr, evIfs, evT, evTAnd, evTOr, parS, bi_asc, tgD, tgDs, wipeS, slotsOf, slotsOfs, szk, shortC_ok lv k l m p hp hk hl]
theorem eqq_wd (p q : List Rat) : cmpD .Eq (wd p) (wd q) = some (decide (p = q)) := eq_wd p q
theorem ne_wd (p q : List Rat) : cmpD .NotEq (wd p) (wd q) = some (!decide (p = q)) := by
  show (eqD (wd p) (wd q)).map _ = _
  rw [eq_wd]; rfl
theorem mul_nil_iff {s y : List Rat} (hs : trim s) (s0 : s ≠ []) (hy : trim y) : mulW s y = [] ↔ y = [] := ⟨fun h => (mul_eq_nil hs hy h).resolve_left s0, fun h => by rw [h, mulW_nil']⟩
theorem does_divide_ok (lv kx ky KT KR : Nat) (m : Sto) (s x y : List Rat) (hs : Cd 3 4 s) (s0 : s ≠ []) (hx : Cd kx 5 x) (hy : Cd ky 5 y) (y0 : y ≠ []) (hT : 1 + Pt (x.length + 1 - y.length) kx ky ≤ KT) (hR : kx + (x.length + 1 - y.length) * (ky + 1) ≤ KR) (h1 : KT ≤ 4300) (h2 : KR + 2 * ky + 60 ≤ 4400) :
    callF W0 (lv + 7) 20 [.dat (wd (mulW s y)), .dat (wd (mulW s x))] m = .ok (.vl (.dat (.bl (decide ((divW x y).2 = []))))) m := by
  rw [c_does_divide]
  refine ru_dat rfl rfl rfl rfl ?_
  have c := divided_word_ok lv kx ky KT KR m s x y hs s0 hx hy y0 hT hR h1 h2
  have e1 : ¬ mulW s y = [] := fun z => y0 ((mul_nil_iff hs.tr s0 hy.tr).mp z)
  have e2 : (mulW s (divW x y).2 = []) ↔ (divW x y).2 = [] := mul_nil_iff hs.tr s0 (div_spec hx.tr hy.tr y0).2.1
  simp [d_does_divide, b_does_divide, x_nil, x_cons, x_set, x_setT, x_par, x_ife, x_ret, x_retf, n_lst, n_call, x_newl, x_exp, bi_ok, bi_bad, of_some, lk_dat, lks_nil, lks_cons, do_nil, do_cons, op_some, ob_some, b_add, b_sub, c_lt, c_le, c_gt, c_ge, c_eqS, c_neS, c_eqI, c_neI, c_eqB, c_neB, c_eqT, c_neT, c_eqL, c_neL, c_isB, c_isntB, c_is, c_isnt, eq_int, eq_bl, eq_pair, t_bl, t_int, t_lst, t_tup, l_tup, l_lst, l_scr, l_abs, l_int, l_intB, l_max, l_min, l_tt, l_tl, l_all, l_any, l_repr, s_tup, s_lst, s_scr, i_tt, i_ii, i_ib, i_it, ix0, ix1, ix2, v_var, v_cst, v_glo, v_tup, v_lst, v_lsts, d_nil, d_star, d_one, l_max1, l_min1, l_sum, v_bin, v_neg, v_nt, v_cmp, v_chain, v_and, v_or, v_ite, v_sub, v_rev, v_call, v_blt, v_isi, v_comp, evs, evAnd, evOr, evIfs, evT, evTAnd, evTOr, parS, bi_asc, tgD, tgDs, wipeS, slotsOf, slotsOfs, szk, eqn, e1, c, e2]
theorem divides_ok (lv kx ky KT KR : Nat) (m : Sto) (s x y : List Rat) (hs : Cd 3 4 s) (s0 : s ≠ []) (hx : Cd kx 5 x) (hy : Cd ky 5 y) (y0 : y ≠ []) (hT : 1 + Pt (x.length + 1 - y.length) kx ky ≤ KT) (hR : kx + (x.length + 1 - y.length) * (ky + 1) ≤ KR) (h1 : KT ≤ 4300) (h2 : KR + 2 * ky + 60 ≤ 4400) (hkx : kx ≤ 4000) :
    callF W0 (lv + 8) 21 [.dat (wd (mulW s y)), .dat (wd (mulW s x))] m = .ok (.vl (.dat (.bl (decide ((divW x y).2 = []))))) m := by
  rw [c_divides]
  refine ru_dat rfl rfl rfl rfl ?_
  simp [d_divides, b_divides, x_nil, x_cons, x_set, x_setT, x_par, x_ife, x_ret, x_retf, n_lst, n_call, x_newl, x_exp, bi_ok, bi_bad, of_some, lk_dat, lks_nil, lks_cons, do_nil, do_cons, op_some, ob_some, b_add, b_sub, c_lt, c_le, c_gt, c_ge, c_eqS, c_neS, c_eqI, c_neI, c_eqB, c_neB, c_eqT, c_neT, c_eqL, c_neL, c_isB, c_isntB, c_is, c_isnt, eq_int, eq_bl, eq_pair, t_bl, t_int, t_lst, t_tup, l_tup, l_lst, l_scr, l_abs, l_int, l_intB, l_max, l_min, l_tt, l_tl, l_all, l_any, l_repr, s_tup, s_lst, s_scr, i_tt, i_ii, i_ib, i_it, ix0, ix1, ix2, v_var, v_cst, v_glo, v_tup, v_lst, v_lsts, d_nil, d_star, d_one, l_max1, l_min1, l_sum, v_bin, v_neg, v_nt, v_cmp, v_chain, v_and, v_or, v_ite, v_sub, v_rev, v_call, v_blt, v_isi, v_comp, evs, evAnd, evOr, evIfs, evT, evTAnd, evTOr, parS, bi_asc, tgD, tgDs, wipeS, slotsOf, slotsOfs, szk, reqC_ok (lv + 2) _ _ m _ (hs.mul hy) (by omega) (by decide), reqC_ok (lv + 2) _ _ m _ (hs.mul hx) (by omega) (by decide), does_divide_ok lv kx ky KT KR m s x y hs s0 hx hy y0 hT hR h1 h2]
theorem divides_nil (lv : Nat) (m : Sto) : callF W0 (lv + 8) 21 [.dat (wd []), .dat (wd [])] m = .ok (.vl (.dat (.bl true))) m := by
  rw [c_divides]
  refine ru_dat rfl rfl rfl rfl ?_
  have c : callF W0 (lv + 7) 20 [.dat (wd []), .dat (wd [])] m = .ok (.vl (.dat (.bl true))) m := by
    rw [c_does_divide]
    refine ru_dat rfl rfl rfl rfl ?_
    simp [d_does_divide, b_does_divide, x_nil, x_cons, x_set, x_setT, x_par, x_ife, x_ret, x_retf, n_lst, n_call, x_newl, x_exp, bi_ok, bi_bad, of_some, lk_dat, lks_nil, lks_cons, do_nil, do_cons, op_some, ob_some, b_add, b_sub, c_lt, c_le, c_gt, c_ge, c_eqS, c_neS, c_eqI, c_neI, c_eqB, c_neB, c_eqT, c_neT, c_eqL, c_neL, c_isB, c_isntB, c_is, c_isnt, eq_int, eq_bl, eq_pair, t_bl, t_int, t_lst, t_tup, l_tup, l_lst, l_scr, l_abs, l_int, l_intB, l_max, l_min, l_tt, l_tl, l_all, l_any, l_repr, s_tup, s_lst, s_scr, i_tt, i_ii, i_ib, i_it, ix0, ix1, ix2, v_var, v_cst, v_glo, v_tup, v_lst, v_lsts, d_nil, d_star, d_one, l_max1, l_min1, l_sum, v_bin, v_neg, v_nt, v_cmp, v_chain, v_and, v_or, v_ite, v_sub, v_rev, v_call, v_blt, v_isi, v_comp, evs, evAnd, evOr, evIfs, evT, evTAnd, evTOr, parS, bi_asc, tgD, tgDs, wipeS, slotsOf, slotsOfs, szk, eqn]
  simp [d_divides, b_divides, x_nil, x_cons, x_set, x_setT, x_par, x_ife, x_ret, x_retf, n_lst, n_call, x_newl, x_exp, bi_ok, bi_bad, of_some, lk_dat, lks_nil, lks_cons, do_nil, do_cons, op_some, ob_some, b_add, b_sub, c_lt, c_le, c_gt, c_ge, c_eqS, c_neS, c_eqI, c_neI, c_eqB, c_neB, c_eqT, c_neT, c_eqL, c_neL, c_isB, c_isntB, c_is, c_isnt, eq_int, eq_bl, eq_pair, t_bl, t_int, t_lst, t_tup, l_tup, l_lst, l_scr, l_abs, l_int, l_intB, l_max, l_min, l_tt, l_tl, l_all, l_any, l_repr, s_tup, s_lst, s_scr, i_tt, i_ii, i_ib, i_it, ix0, ix1, ix2, v_var, v_cst, v_glo, v_tup, v_lst, v_lsts, d_nil, d_star, d_one, l_max1, l_min1, l_sum, v_bin, v_neg, v_nt, v_cmp, v_chain, v_and, v_or, v_ite, v_sub, v_rev, v_call, v_blt, v_isi, v_comp, evs, evAnd, evOr, evIfs, evT, evTAnd, evTOr, parS, bi_asc, tgD, tgDs, wipeS, slotsOf, slotsOfs, szk, reqC_ok (lv + 2) 1 1 m [] (Cd.nil 1 1 (by decide)) (by decide) (by decide), c]
/-! ### the common word -/
theorem whl_eu {f : Slots → Sto → R (Out × Bool)} {m : Sto} (Q : List Rat → List Rat → List Rat → List Rat → List Rat → List Rat → Slots → Prop) (ht : ∀ x y a b c d s, Q x y a b c d s → trim x ∧ trim y) (hs : ∀ x a b c d s, Q x [] a b c d s → f s m = .ok (.nx s, false) m)
    (hg : ∀ x y a b c d s, Q x y a b c d s → y ≠ [] → ∃ s', f s m = .ok (.nx s', true) m ∧ Q y (divW x y).2 c d (subW a (mulW (divW x y).1 c)) (subW b (mulW (divW x y).1 d)) s') : ∀ (k n : Nat) (x y a b c d : List Rat) (s : Slots), Q x y a b c d s → y.length < k → k ≤ n →
    ∃ s' g2 g3, whlF n f s m = .ok (.nx s') m ∧ Q (euc k x y a b c d).1 [] (euc k x y a b c d).2.1 (euc k x y a b c d).2.2 g2 g3 s'
  | 0, _, _, _, _, _, _, _, _, _, h, _ => by omega
  | k + 1, 0, _, _, _, _, _, _, _, _, _, h => by omega
  | k + 1, n + 1, x, y, a, b, c, d, s, q, h1, h2 => by
    unfold whlF euc
    by_cases y0 : y = []
    · subst y0
      rw [if_pos rfl, hs x a b c d s q]
      exact ⟨s, c, d, rfl, q⟩
    · rw [if_neg y0]
      obtain ⟨s', e, q'⟩ := hg x y a b c d s q y0
      rw [e]
      have ht' := ht x y a b c d s q
      have hd := (div_spec ht'.1 ht'.2 y0).2.2.1
      exact whl_eu Q ht hs hg k n _ _ _ _ _ _ s' q' (by omega) (by omega)
theorem bind_eu {β : Type} {f : Slots → Sto → R (Out × Bool)} {m : Sto} {x y a b c d : List Rat} {s : Slots} {g : Out → Sto → R β} {z : R β} (Q : List Rat → List Rat → List Rat → List Rat → List Rat → List Rat → Slots → Prop) (h0 : Q x y a b c d s) (hy : y.length < 10) (ht : ∀ x y a b c d s, Q x y a b c d s → trim x ∧ trim y) (hs : ∀ x a b c d s, Q x [] a b c d s → f s m = .ok (.nx s, false) m)
    (hg : ∀ x y a b c d s, Q x y a b c d s → y ≠ [] → ∃ s', f s m = .ok (.nx s', true) m ∧ Q y (divW x y).2 c d (subW a (mulW (divW x y).1 c)) (subW b (mulW (divW x y).1 d)) s')
    (k : ∀ s' g2 g3, Q (euc 10 x y a b c d).1 [] (euc 10 x y a b c d).2.1 (euc 10 x y a b c d).2.2 g2 g3 s' → g (.nx s') m = z) : (whlF whlMost f s m).bind g = z := by
  obtain ⟨s', g2, g3, e, q⟩ := whl_eu Q ht hs hg 10 whlMost x y a b c d s h0 hy (by
    have : whlMost = 1099511627776 := by decide
    omega)
  rw [e, bi_ok]
  exact k s' g2 g3 q
/-- what is found: the common word of two, and words that make it -/
def eu (x y : List Rat) : List Rat × List Rat × List Rat := euc 10 x y [1] [] [] [1]
def hd (s x y : List Rat) : Rat := 1 / lc (mulW s (eu x y).1)
theorem sc0 (p : List Rat) : scW 0 p = [] := trim_eq (tr_sc _ _) trim_nil fun n => by rw [cf_scW, Rat.zero_mul]; rfl
theorem one_div0 : (1 : Rat) / 0 = 0 := by decide +kernel
theorem vd1 {n : Nat} (h : 1 ≤ n) : Vd n ≤ 600 := vd_le 1 n h
theorem ld1 (n : Nat) : Ld n ≤ 26 := by unfold Ld; omega
theorem common_sum_ok (lv : Nat) (m : Sto) (s x y : List Rat) (hs : Cd 3 4 s) (s0 : s ≠ []) (hE : Es x y [1] [] [] [1]) : callF W0 (lv + 7) 22 [.dat (wd (mulW s x)), .dat (wd (mulW s y))] m = .ok (.vl (.dat (.tup [wd (mon (mulW s (eu x y).1)), wd (scW (hd s x y) (eu x y).2.1), wd (scW (hd s x y) (eu x y).2.2)]))) m := by
  rw [c_common_sum]
  refine ru_dat rfl rfl rfl rfl ?_
  simp only [d_common_sum, b_common_sum]
  refine st1 (s' := [some (.dat (wd (mulW s x))), some (.dat (wd (mulW s y))), some (.dat (.tup [wd [1], wd []])), some (.dat (.tup [wd [], wd [1]])), none, none, none, none, none, none]) (m' := m) (by simp [x_nil, x_cons, x_set, x_setT, x_par, x_ife, x_ret, x_retf, n_lst, n_call, x_newl, x_exp, bi_ok, bi_bad, of_some, lk_dat, lks_nil, lks_cons, do_nil, do_cons, op_some, ob_some, b_add, b_sub, c_lt, c_le, c_gt, c_ge, c_eqS, c_neS, c_eqI, c_neI, c_eqB, c_neB, c_eqT, c_neT, c_eqL, c_neL, c_isB, c_isntB, c_is, c_isnt, eq_int, eq_bl, eq_pair, t_bl, t_int, t_lst, t_tup, l_tup, l_lst, l_scr, l_abs, l_int, l_intB, l_max, l_min, l_tt, l_tl, l_all, l_any, l_repr, s_tup, s_lst, s_scr, i_tt, i_ii, i_ib, i_it, ix0, ix1, ix2, v_var, v_cst, v_glo, v_tup, v_lst, v_lsts, d_nil, d_star, d_one, l_max1, l_min1, l_sum, v_bin, v_neg, v_nt, v_cmp, v_chain, v_and, v_or, v_ite, v_sub, v_rev, v_call, v_blt, v_isi, v_comp, evs, evAnd, evOr, evIfs, evT, evTAnd, evTOr, parS, bi_asc, tgD, tgDs, wipeS, slotsOf, slotsOfs, szk, con_U]; exact ⟨⟨rfl, rfl⟩, rfl, rfl⟩) ?_
  rw [x_cons, x_whl]
  refine bind_eu (fun x y a b c d st => (∃ x4 x5 x6, st = [some (.dat (wd (mulW s x))), some (.dat (wd (mulW s y))), some (.dat (.tup [wd a, wd b])), some (.dat (.tup [wd c, wd d])), x4, x5, x6, none, none, none]) ∧ Es x y a b c d) ⟨⟨none, none, none, rfl⟩, hE⟩ (by have := hE.ly; omega) (fun x y a b c d st q => ⟨q.2.cx.tr, q.2.cy.tr⟩) ?_ ?_ ?_
  · rintro x a b c d st ⟨⟨x4, x5, x6, rfl⟩, hE⟩
    simp [whlStep, x_nil, x_cons, x_set, x_setT, x_par, x_ife, x_ret, x_retf, n_lst, n_call, x_newl, x_exp, bi_ok, bi_bad, of_some, lk_dat, lks_nil, lks_cons, do_nil, do_cons, op_some, ob_some, b_add, b_sub, c_lt, c_le, c_gt, c_ge, c_eqS, c_neS, c_eqI, c_neI, c_eqB, c_neB, c_eqT, c_neT, c_eqL, c_neL, c_isB, c_isntB, c_is, c_isnt, eq_int, eq_bl, eq_pair, t_bl, t_int, t_lst, t_tup, l_tup, l_lst, l_scr, l_abs, l_int, l_intB, l_max, l_min, l_tt, l_tl, l_all, l_any, l_repr, s_tup, s_lst, s_scr, i_tt, i_ii, i_ib, i_it, ix0, ix1, ix2, v_var, v_cst, v_glo, v_tup, v_lst, v_lsts, d_nil, d_star, d_one, l_max1, l_min1, l_sum, v_bin, v_neg, v_nt, v_cmp, v_chain, v_and, v_or, v_ite, v_sub, v_rev, v_call, v_blt, v_isi, v_comp, evs, evAnd, evOr, evIfs, evT, evTAnd, evTOr, parS, bi_asc, tgD, tgDs, wipeS, slotsOf, slotsOfs, szk, nen, mulW_nil']
  · rintro x y a b c d st ⟨⟨x4, x5, x6, rfl⟩, hE⟩ y0
    have ly1 := List.length_pos_iff.mpr y0
    obtain ⟨t1, t2, t3⟩ := hE.lim y0
    have hn : ¬ mulW s y = [] := fun z => y0 ((mul_nil_iff hs.tr s0 hE.cy.tr).mp z)
    have c1 := divided_word_ok lv _ _ 2600 950 m s x y hs s0 hE.cx hE.cy y0 t1 t2 (by decide) (by omega)
    have ht := (dvl_bs hE.cy y0 (x.length + 1) [] x hE.bs).t
    have ht : Cd 2600 5 (divW x y).1 := ht.mono t1 (Nat.le_refl _)
    have v1 := vd1 ly1
    have v2 : Vd x.length ≤ 3300 := vd_le 0 _ (Nat.zero_le _)
    have l1 := ld1 y.length
    have l2 := ld1 x.length
    have c2 := productC_ok (lv + 1) 2600 5 _ _ m (divW x y).1 c ht hE.s0 (by omega) (by omega)
    have c3 := productC_ok (lv + 1) 2600 5 _ _ m (divW x y).1 d ht hE.s1 (by omega) (by omega)
    have c4 := lessC_ok (lv + 1) _ _ _ _ m a (mulW (divW x y).1 c) hE.f0 (ht.mul hE.s0) (by omega) (by omega) (by omega) (by omega)
    have c5 := lessC_ok (lv + 1) _ _ _ _ m b (mulW (divW x y).1 d) hE.f1 (ht.mul hE.s1) (by omega) (by omega) (by omega) (by omega)
    have ec : evC W0 (callF W0 (lv + 6)) (.tp [(.nm 8), (.nm 9)]) .zip [(.var 2), (.var 3)] [] (.call 14 [(.var 8), (.call 16 [(.var 4), (.var 9)])]) [some (.dat (wd (mulW s x))), some (.dat (wd (mulW s y))), some (.dat (.tup [wd a, wd b])), some (.dat (.tup [wd c, wd d])), some (.dat (wd (divW x y).1)), some (.dat (wd (mulW s (divW x y).2))), x6, none, none, none] m = .ok [wd (subW a (mulW (divW x y).1 c)), wd (subW b (mulW (divW x y).1 d))] m := by
      refine evC_enc (W := W0) (C := callF W0 (lv + 6)) (s := [some (.dat (wd (mulW s x))), some (.dat (wd (mulW s y))), some (.dat (.tup [wd a, wd b])), some (.dat (.tup [wd c, wd d])), some (.dat (wd (divW x y).1)), some (.dat (wd (mulW s (divW x y).2))), x6, none, none, none]) (src := [(.var 2), (.var 3)]) (ik := .zip) (ds := [.tup [wd a, wd b], .tup [wd c, wd d]]) (m := m) (vs := [.dat (.tup [wd a, wd b]), .dat (.tup [wd c, wd d])]) (m1 := m) (enc := fun x : List Rat × List Rat => D.tup [wd x.1, wd x.2]) (fun z => wd (subW z.1 (mulW (divW x y).1 z.2))) [(a, c), (b, d)] (by rfl) (by rfl) rfl (by simp) (fun z hz => ?_)
      rcases List.mem_cons.mp hz with rfl | hz
      · refine turn0 rfl ?_
        simp [x_nil, x_cons, x_set, x_setT, x_par, x_ife, x_ret, x_retf, n_lst, n_call, x_newl, x_exp, bi_ok, bi_bad, of_some, lk_dat, lks_nil, lks_cons, do_nil, do_cons, op_some, ob_some, b_add, b_sub, c_lt, c_le, c_gt, c_ge, c_eqS, c_neS, c_eqI, c_neI, c_eqB, c_neB, c_eqT, c_neT, c_eqL, c_neL, c_isB, c_isntB, c_is, c_isnt, eq_int, eq_bl, eq_pair, t_bl, t_int, t_lst, t_tup, l_tup, l_lst, l_scr, l_abs, l_int, l_intB, l_max, l_min, l_tt, l_tl, l_all, l_any, l_repr, s_tup, s_lst, s_scr, i_tt, i_ii, i_ib, i_it, ix0, ix1, ix2, v_var, v_cst, v_glo, v_tup, v_lst, v_lsts, d_nil, d_star, d_one, l_max1, l_min1, l_sum, v_bin, v_neg, v_nt, v_cmp, v_chain, v_and, v_or, v_ite, v_sub, v_rev, v_call, v_blt, v_isi, v_comp, evs, evAnd, evOr, evIfs, evT, evTAnd, evTOr, parS, bi_asc, tgD, tgDs, wipeS, slotsOf, slotsOfs, szk, c2, c4]
      · rw [List.mem_singleton] at hz
        subst hz
        refine turn0 rfl ?_
        simp [x_nil, x_cons, x_set, x_setT, x_par, x_ife, x_ret, x_retf, n_lst, n_call, x_newl, x_exp, bi_ok, bi_bad, of_some, lk_dat, lks_nil, lks_cons, do_nil, do_cons, op_some, ob_some, b_add, b_sub, c_lt, c_le, c_gt, c_ge, c_eqS, c_neS, c_eqI, c_neI, c_eqB, c_neB, c_eqT, c_neT, c_eqL, c_neL, c_isB, c_isntB, c_is, c_isnt, eq_int, eq_bl, eq_pair, t_bl, t_int, t_lst, t_tup, l_tup, l_lst, l_scr, l_abs, l_int, l_intB, l_max, l_min, l_tt, l_tl, l_all, l_any, l_repr, s_tup, s_lst, s_scr, i_tt, i_ii, i_ib, i_it, ix0, ix1, ix2, v_var, v_cst, v_glo, v_tup, v_lst, v_lsts, d_nil, d_star, d_one, l_max1, l_min1, l_sum, v_bin, v_neg, v_nt, v_cmp, v_chain, v_and, v_or, v_ite, v_sub, v_rev, v_call, v_blt, v_isi, v_comp, evs, evAnd, evOr, evIfs, evT, evTAnd, evTOr, parS, bi_asc, tgD, tgDs, wipeS, slotsOf, slotsOfs, szk, c3, c5]
    refine ⟨[some (.dat (wd (mulW s y))), some (.dat (wd (mulW s (divW x y).2))), some (.dat (.tup [wd c, wd d])), some (.dat (.tup [wd (subW a (mulW (divW x y).1 c)), wd (subW b (mulW (divW x y).1 d))])), some (.dat (wd (divW x y).1)), some (.dat (wd (mulW s (divW x y).2))), some (.dat (.tup [wd (subW a (mulW (divW x y).1 c)), wd (subW b (mulW (divW x y).1 d))])), none, none, none], ?_, ⟨_, _, _, rfl⟩, hE.step y0⟩
    simp [whlStep, x_nil, x_cons, x_set, x_setT, x_par, x_ife, x_ret, x_retf, n_lst, n_call, x_newl, x_exp, bi_ok, bi_bad, of_some, lk_dat, lks_nil, lks_cons, do_nil, do_cons, op_some, ob_some, b_add, b_sub, c_lt, c_le, c_gt, c_ge, c_eqS, c_neS, c_eqI, c_neI, c_eqB, c_neB, c_eqT, c_neT, c_eqL, c_neL, c_isB, c_isntB, c_is, c_isnt, eq_int, eq_bl, eq_pair, t_bl, t_int, t_lst, t_tup, l_tup, l_lst, l_scr, l_abs, l_int, l_intB, l_max, l_min, l_tt, l_tl, l_all, l_any, l_repr, s_tup, s_lst, s_scr, i_tt, i_ii, i_ib, i_it, ix0, ix1, ix2, v_var, v_cst, v_glo, v_tup, v_lst, v_lsts, d_nil, d_star, d_one, l_max1, l_min1, l_sum, v_bin, v_neg, v_nt, v_cmp, v_chain, v_and, v_or, v_ite, v_sub, v_rev, v_call, v_blt, v_isi, v_comp, evs, evAnd, evOr, evIfs, evT, evTAnd, evTOr, parS, bi_asc, tgD, tgDs, wipeS, slotsOf, slotsOfs, szk, nen, hn, c1, tgD, tgDs, ec]
  · rintro st g2 g3 ⟨⟨x4, x5, x6, rfl⟩, hE'⟩
    have egr : euc 10 x y [1] [] [] [1] = eu x y := rfl
    rw [egr] at hE' ⊢
    by_cases g0 : (eu x y).1 = []
    · have h0 : hd s x y = 0 := by
        unfold hd
        rw [g0, mulW_nil']
        exact one_div0
      rw [h0, sc0, sc0, g0, mulW_nil', mon_nil]
      simp [x_nil, x_cons, x_set, x_setT, x_par, x_ife, x_ret, x_retf, n_lst, n_call, x_newl, x_exp, bi_ok, bi_bad, of_some, lk_dat, lks_nil, lks_cons, do_nil, do_cons, op_some, ob_some, b_add, b_sub, c_lt, c_le, c_gt, c_ge, c_eqS, c_neS, c_eqI, c_neI, c_eqB, c_neB, c_eqT, c_neT, c_eqL, c_neL, c_isB, c_isntB, c_is, c_isnt, eq_int, eq_bl, eq_pair, t_bl, t_int, t_lst, t_tup, l_tup, l_lst, l_scr, l_abs, l_int, l_intB, l_max, l_min, l_tt, l_tl, l_all, l_any, l_repr, s_tup, s_lst, s_scr, i_tt, i_ii, i_ib, i_it, ix0, ix1, ix2, v_var, v_cst, v_glo, v_tup, v_lst, v_lsts, d_nil, d_star, d_one, l_max1, l_min1, l_sum, v_bin, v_neg, v_nt, v_cmp, v_chain, v_and, v_or, v_ite, v_sub, v_rev, v_call, v_blt, v_isi, v_comp, evs, evAnd, evOr, evIfs, evT, evTAnd, evTOr, parS, bi_asc, tgD, tgDs, wipeS, slotsOf, slotsOfs, szk, eqn]
      rfl
    · have sg := mul_ne hs.tr hE'.cx.tr s0 g0
      have u0 : Ud (eu x y).1.length ≤ 170 := ud_le 1 _ (List.length_pos_iff.mpr g0)
      have csg := hs.mul hE'.cx
      have sl := s_lc sg.2.2
      have hlne := lc_ne (tr_mul s (eu x y).1) sg.2.2
      have c1 : callF W0 (lv + 6) 9 [.dat (.tup [.int 1, .int 1]), .dat (fr (lc (mulW s (eu x y).1)))] m = .ok (.vl (.dat (fr (hd s x y)))) m := over_ok (lv + 2) 4400 m 1 (lc (mulW s (eu x y).1)) hlne (nb_bd nb_one (by decide)) (nb_bd csg.lead (by omega)) (by decide)
      have nh : Nb (1 + (3 + Ud (eu x y).1.length + 4)) (hd s x y) := nb_one.div csg.lead hlne
      have v1 : Vd (eu x y).1.length ≤ 600 := vd1 (List.length_pos_iff.mpr g0)
      have l1 := ld1 (eu x y).1.length
      have c2 := scC_ok (lv + 2) _ _ _ m (hd s x y) (mulW s (eu x y).1) nh csg (by omega) (by omega) (by decide)
      have c3 := scC_ok (lv + 2) _ _ _ m (hd s x y) (eu x y).2.1 nh hE'.f0 (by omega) (by omega) (by omega)
      have c4 := scC_ok (lv + 2) _ _ _ m (hd s x y) (eu x y).2.2 nh hE'.f1 (by omega) (by omega) (by omega)
      have em : mon (mulW s (eu x y).1) = scW (hd s x y) (mulW s (eu x y).1) := rfl
      rw [em]
      simp [x_nil, x_cons, x_set, x_setT, x_par, x_ife, x_ret, x_retf, n_lst, n_call, x_newl, x_exp, bi_ok, bi_bad, of_some, lk_dat, lks_nil, lks_cons, do_nil, do_cons, op_some, ob_some, b_add, b_sub, c_lt, c_le, c_gt, c_ge, c_eqS, c_neS, c_eqI, c_neI, c_eqB, c_neB, c_eqT, c_neT, c_eqL, c_neL, c_isB, c_isntB, c_is, c_isnt, eq_int, eq_bl, eq_pair, t_bl, t_int, t_lst, t_tup, l_tup, l_lst, l_scr, l_abs, l_int, l_intB, l_max, l_min, l_tt, l_tl, l_all, l_any, l_repr, s_tup, s_lst, s_scr, i_tt, i_ii, i_ib, i_it, ix0, ix1, ix2, v_var, v_cst, v_glo, v_tup, v_lst, v_lsts, d_nil, d_star, d_one, l_max1, l_min1, l_sum, v_bin, v_neg, v_nt, v_cmp, v_chain, v_and, v_or, v_ite, v_sub, v_rev, v_call, v_blt, v_isi, v_comp, evs, evAnd, evOr, evIfs, evT, evTAnd, evTOr, parS, bi_asc, tgD, tgDs, wipeS, slotsOf, slotsOfs, szk, eqn, sg.2.2, con_O, sl, c1, c2, c3, c4]
end K24

set_option Elab.async false
set_option linter.all false
set_option maxRecDepth 100000
set_option maxHeartbeats 1000000
set_option exponentiation.threshold 10000
namespace K24
open PySem EV POLY
/-! ### the law's own common word -/
theorem law_div_in (lv kx ky KT KR : Nat) (m : Sto) (s x y : List Rat) (F S : D) (x6 x7 : Option Vl) (hs : Cd 3 4 s) (s0 : s ≠ []) (hx : Cd kx 5 x) (hy : Cd ky 5 y) (y0 : y ≠ []) (hT : 1 + Pt (x.length + 1 - y.length) kx ky ≤ KT) (hR : kx + (x.length + 1 - y.length) * (ky + 1) ≤ KR) (h1 : KT ≤ 4300) (h2 : KR + 2 * ky + 60 ≤ 4400) (b : Nat) :
    ∃ x6', exS W0 (callF W0 (lv + 4)) b (.whl (.cmp .GtE (.blt .len [(.var 5)]) (.blt .len [(.var 1)]))
  [.set (.nm 6) (.call 37 [(.tup [(.call 32 [(.sub (.var 5) (.neg (.cst (.int 1)))), (.sub (.var 1) (.neg (.cst (.int 1))))])]), (.bin .Sub (.blt .len [(.var 5)]) (.blt .len [(.var 1)]))]),
  .set (.tp [(.nm 4), (.nm 5)]) (.tup [(.call 34 [(.var 4), (.var 6)]), (.call 36 [(.var 5), (.call 38 [(.var 6), (.var 1)])])])]) [some (.dat (wd (mulW s x))), some (.dat (wd (mulW s y))), some (.dat F), some (.dat S), some (.dat (wd [])), some (.dat (wd (mulW s x))), x6, x7, none, none, none, none] m =
    .ok (.nx [some (.dat (wd (mulW s x))), some (.dat (wd (mulW s y))), some (.dat F), some (.dat S), some (.dat (wd (divW x y).1)), some (.dat (wd (mulW s (divW x y).2))), x6', x7, none, none, none, none]) m := by
  have hsy := mul_ne hs.tr hy.tr s0 y0
  have csy := hs.mul hy
  have sl := s_lc hsy.2.2
  have hlne := lc_ne (tr_mul s y) hsy.2.2
  obtain ⟨st, e, x6', rfl, hb⟩ := whl_dv (f := whlStep W0 (callF W0 (lv + 4)) b (.cmp .GtE (.blt .len [(.var 5)]) (.blt .len [(.var 1)]))
  [.set (.nm 6) (.call 37 [(.tup [(.call 32 [(.sub (.var 5) (.neg (.cst (.int 1)))), (.sub (.var 1) (.neg (.cst (.int 1))))])]), (.bin .Sub (.blt .len [(.var 5)]) (.blt .len [(.var 1)]))]),
  .set (.tp [(.nm 4), (.nm 5)]) (.tup [(.call 34 [(.var 4), (.var 6)]), (.call 36 [(.var 5), (.call 38 [(.var 6), (.var 1)])])])]) (m := m) hy.tr y0 (fun t r st => ∃ x6, st = [some (.dat (wd (mulW s x))), some (.dat (wd (mulW s y))), some (.dat F), some (.dat S), some (.dat (wd t)), some (.dat (wd (mulW s r))), x6, x7, none, none, none, none] ∧ Bs y ky KT KR t r) (by
    rintro t r st ⟨x6, rfl, hb⟩ hl
    have hn : ¬ (mulW s y).length ≤ (mulW s r).length := fun z => by
      have := (len_scale hs.tr s0 hb.r.tr hy.tr y0).mp z
      omega
    simp [whlStep, x_nil, x_cons, x_set, x_setT, x_par, x_ife, x_ret, x_retf, n_lst, n_call, x_newl, x_exp, bi_ok, bi_bad, of_some, lk_dat, lks_nil, lks_cons, do_nil, do_cons, op_some, ob_some, b_add, b_sub, c_lt, c_le, c_gt, c_ge, c_eqS, c_neS, c_eqI, c_neI, c_eqB, c_neB, c_eqT, c_neT, c_eqL, c_neL, c_isB, c_isntB, c_is, c_isnt, eq_int, eq_bl, eq_pair, t_bl, t_int, t_lst, t_tup, l_tup, l_lst, l_scr, l_abs, l_int, l_intB, l_max, l_min, l_tt, l_tl, l_all, l_any, l_repr, s_tup, s_lst, s_scr, i_tt, i_ii, i_ib, i_it, ix0, ix1, ix2, v_var, v_cst, v_glo, v_tup, v_lst, v_lsts, d_nil, d_star, d_one, l_max1, l_min1, l_sum, v_bin, v_neg, v_nt, v_cmp, v_chain, v_and, v_or, v_ite, v_sub, v_rev, v_call, v_blt, v_isi, v_comp, evs, evAnd, evOr, evIfs, evT, evTAnd, evTOr, parS, bi_asc, tgD, tgDs, wipeS, slotsOf, slotsOfs, szk, l_wd, hn]) (by
    rintro t r st ⟨x6, rfl, hb⟩ hl
    have hn := (len_scale hs.tr s0 hb.r.tr hy.tr y0).mpr hl
    have r0 : r ≠ [] := fun z => by
      subst z
      have h' : y.length ≤ 0 := hl
      have := List.length_pos_iff.mpr y0
      omega
    have hsr := mul_ne hs.tr hb.r.tr s0 r0
    have csr := hs.mul hb.r
    have slr := s_lc hsr.2.2
    have hd : ((mulW s r).length : Int) - (mulW s y).length = ((r.length - y.length : Nat) : Int) := by
      rw [hsr.1, hsy.1]
      have p1 := List.length_pos_iff.mpr s0
      have p2 := List.length_pos_iff.mpr y0
      omega
    have hp := hb.p hy y0 hl
    have c3 := law_over_ok (lv + 2) 4400 m (lc (mulW s r)) (lc (mulW s y)) (num_ne hlne) (nb_bd csr.lead (by omega)) (nb_bd csy.lead (by omega)) (by decide)
    rw [(lead_q hs.tr s0 hb.r.tr r0 hy.tr y0).2] at c3
    have c4 : callF W0 (lv + 4) 37 [.dat (.tup [fr (lc r / lc y)]), .dat (.int ((r.length - y.length : Nat) : Int))] m = .ok (.vl (.dat (wd (prt y r)))) m := by
      have := law_later_ok (lv + 3) m [lc r / lc y] (r.length - y.length) (by have := hb.r.ln; simp; omega)
      rw [if_neg (by simp)] at this
      exact this
    rw [← hd] at c4
    have c5 := plusC_ok (lv + 1) KT 5 KR 5 m t (prt y r) hb.t hp (by omega) (by omega) (by decide) (by decide)
    have c6 := timesC_ok (lv + 1) KR 5 (3 + ky + 4) (4 + 5) m (prt y r) (mulW s y) hp csy (by omega) (by decide)
    have c7 := law_minus_ok lv (3 + KR + 4) (4 + 5) (KR + (3 + ky + 4) + 5) (5 + (4 + 5)) m (mulW s r) (mulW (prt y r) (mulW s y)) csr (hp.mul csy) (by omega) (by omega) (by decide) (by decide)
    rw [dst_scale] at c7
    refine ⟨[some (.dat (wd (mulW s x))), some (.dat (wd (mulW s y))), some (.dat F), some (.dat S), some (.dat (wd (addW t (prt y r)))), some (.dat (wd (mulW s (dst y r)))), some (.dat (wd (prt y r))), x7, none, none, none, none], ?_, some (.dat (wd (prt y r))), rfl, hb.step hy y0 hl⟩
    simp [whlStep, x_nil, x_cons, x_set, x_setT, x_par, x_ife, x_ret, x_retf, n_lst, n_call, x_newl, x_exp, bi_ok, bi_bad, of_some, lk_dat, lks_nil, lks_cons, do_nil, do_cons, op_some, ob_some, b_add, b_sub, c_lt, c_le, c_gt, c_ge, c_eqS, c_neS, c_eqI, c_neI, c_eqB, c_neB, c_eqT, c_neT, c_eqL, c_neL, c_isB, c_isntB, c_is, c_isnt, eq_int, eq_bl, eq_pair, t_bl, t_int, t_lst, t_tup, l_tup, l_lst, l_scr, l_abs, l_int, l_intB, l_max, l_min, l_tt, l_tl, l_all, l_any, l_repr, s_tup, s_lst, s_scr, i_tt, i_ii, i_ib, i_it, ix0, ix1, ix2, v_var, v_cst, v_glo, v_tup, v_lst, v_lsts, d_nil, d_star, d_one, l_max1, l_min1, l_sum, v_bin, v_neg, v_nt, v_cmp, v_chain, v_and, v_or, v_ite, v_sub, v_rev, v_call, v_blt, v_isi, v_comp, evs, evAnd, evOr, evIfs, evT, evTAnd, evTOr, parS, bi_asc, tgD, tgDs, wipeS, slotsOf, slotsOfs, szk, l_wd, hn, sl, slr, c3, c4, c5, c6, c7, tgD, tgDs]) (x.length + 1) whlMost [] x [some (.dat (wd (mulW s x))), some (.dat (wd (mulW s y))), some (.dat F), some (.dat S), some (.dat (wd [])), some (.dat (wd (mulW s x))), x6, x7, none, none, none, none]
    ⟨x6, rfl, 1, kx, x.length + 1 - y.length, Cd.nil 1 5 (by decide), hx, by omega, hT, hR⟩ (by omega) (by
    have : whlMost = 1099511627776 := by decide
    have := hx.ln
    omega)
  refine ⟨x6', ?_⟩
  rw [x_whl, e]
  rfl
theorem law_common_ok (lv : Nat) (m : Sto) (s x y : List Rat) (hs : Cd 3 4 s) (s0 : s ≠ []) (hE : Es x y [1] [] [] [1]) : callF W0 (lv + 5) 43 [.dat (wd (mulW s x)), .dat (wd (mulW s y))] m = .ok (.vl (.dat (.tup [wd (mon (mulW s (eu x y).1)), .tup [wd (scW (hd s x y) (eu x y).2.1), wd (scW (hd s x y) (eu x y).2.2)]]))) m := by
  rw [c_law_common]
  refine ru_dat rfl rfl rfl rfl ?_
  simp only [d_law_common, b_law_common]
  refine st1 (s' := [some (.dat (wd (mulW s x))), some (.dat (wd (mulW s y))), some (.dat (.tup [wd [1], wd []])), some (.dat (.tup [wd [], wd [1]])), none, none, none, none, none, none, none, none]) (m' := m) (by simp [x_nil, x_cons, x_set, x_setT, x_par, x_ife, x_ret, x_retf, n_lst, n_call, x_newl, x_exp, bi_ok, bi_bad, of_some, lk_dat, lks_nil, lks_cons, do_nil, do_cons, op_some, ob_some, b_add, b_sub, c_lt, c_le, c_gt, c_ge, c_eqS, c_neS, c_eqI, c_neI, c_eqB, c_neB, c_eqT, c_neT, c_eqL, c_neL, c_isB, c_isntB, c_is, c_isnt, eq_int, eq_bl, eq_pair, t_bl, t_int, t_lst, t_tup, l_tup, l_lst, l_scr, l_abs, l_int, l_intB, l_max, l_min, l_tt, l_tl, l_all, l_any, l_repr, s_tup, s_lst, s_scr, i_tt, i_ii, i_ib, i_it, ix0, ix1, ix2, v_var, v_cst, v_glo, v_tup, v_lst, v_lsts, d_nil, d_star, d_one, l_max1, l_min1, l_sum, v_bin, v_neg, v_nt, v_cmp, v_chain, v_and, v_or, v_ite, v_sub, v_rev, v_call, v_blt, v_isi, v_comp, evs, evAnd, evOr, evIfs, evT, evTAnd, evTOr, parS, bi_asc, tgD, tgDs, wipeS, slotsOf, slotsOfs, szk, tgD, tgDs]; exact ⟨⟨rfl, rfl⟩, rfl, rfl⟩) ?_
  rw [x_cons, x_whl]
  refine bind_eu (fun x y a b c d st => (∃ x4 x5 x6 x7, st = [some (.dat (wd (mulW s x))), some (.dat (wd (mulW s y))), some (.dat (.tup [wd a, wd b])), some (.dat (.tup [wd c, wd d])), x4, x5, x6, x7, none, none, none, none]) ∧ Es x y a b c d) ⟨⟨none, none, none, none, rfl⟩, hE⟩ (by have := hE.ly; omega) (fun x y a b c d st q => ⟨q.2.cx.tr, q.2.cy.tr⟩) ?_ ?_ ?_
  · rintro x a b c d st ⟨⟨x4, x5, x6, x7, rfl⟩, hE⟩
    simp [whlStep, x_nil, x_cons, x_set, x_setT, x_par, x_ife, x_ret, x_retf, n_lst, n_call, x_newl, x_exp, bi_ok, bi_bad, of_some, lk_dat, lks_nil, lks_cons, do_nil, do_cons, op_some, ob_some, b_add, b_sub, c_lt, c_le, c_gt, c_ge, c_eqS, c_neS, c_eqI, c_neI, c_eqB, c_neB, c_eqT, c_neT, c_eqL, c_neL, c_isB, c_isntB, c_is, c_isnt, eq_int, eq_bl, eq_pair, t_bl, t_int, t_lst, t_tup, l_tup, l_lst, l_scr, l_abs, l_int, l_intB, l_max, l_min, l_tt, l_tl, l_all, l_any, l_repr, s_tup, s_lst, s_scr, i_tt, i_ii, i_ib, i_it, ix0, ix1, ix2, v_var, v_cst, v_glo, v_tup, v_lst, v_lsts, d_nil, d_star, d_one, l_max1, l_min1, l_sum, v_bin, v_neg, v_nt, v_cmp, v_chain, v_and, v_or, v_ite, v_sub, v_rev, v_call, v_blt, v_isi, v_comp, evs, evAnd, evOr, evIfs, evT, evTAnd, evTOr, parS, bi_asc, tgD, tgDs, wipeS, slotsOf, slotsOfs, szk, nen, mulW_nil']
  · rintro x y a b c d st ⟨⟨x4, x5, x6, x7, rfl⟩, hE⟩ y0
    have ly1 := List.length_pos_iff.mpr y0
    obtain ⟨t1, t2, t3⟩ := hE.lim y0
    have hn : ¬ mulW s y = [] := fun z => y0 ((mul_nil_iff hs.tr s0 hE.cy.tr).mp z)
    obtain ⟨x6', c1⟩ := law_div_in lv _ _ 2600 950 m s x y (.tup [wd a, wd b]) (.tup [wd c, wd d]) x6 x7 hs s0 hE.cx hE.cy y0 t1 t2 (by decide) (by omega) m.length
    have ht := (dvl_bs hE.cy y0 (x.length + 1) [] x hE.bs).t
    have ht : Cd 2600 5 (divW x y).1 := ht.mono t1 (Nat.le_refl _)
    have v1 := vd1 ly1
    have v2 : Vd x.length ≤ 3300 := vd_le 0 _ (Nat.zero_le _)
    have l1 := ld1 y.length
    have l2 := ld1 x.length
    have c2 := timesC_ok (lv + 1) 2600 5 _ _ m (divW x y).1 c ht hE.s0 (by omega) (by omega)
    have c3 := timesC_ok (lv + 1) 2600 5 _ _ m (divW x y).1 d ht hE.s1 (by omega) (by omega)
    have c4 := law_minus_ok lv _ _ _ _ m a (mulW (divW x y).1 c) hE.f0 (ht.mul hE.s0) (by omega) (by omega) (by omega) (by omega)
    have c5 := law_minus_ok lv _ _ _ _ m b (mulW (divW x y).1 d) hE.f1 (ht.mul hE.s1) (by omega) (by omega) (by omega) (by omega)
    have ec : evC W0 (callF W0 (lv + 4)) (.tp [(.nm 9), (.nm 10)]) .zip [(.var 2), (.var 3)] [] (.call 36 [(.var 9), (.call 38 [(.var 4), (.var 10)])]) [some (.dat (wd (mulW s x))), some (.dat (wd (mulW s y))), some (.dat (.tup [wd a, wd b])), some (.dat (.tup [wd c, wd d])), some (.dat (wd (divW x y).1)), some (.dat (wd (mulW s (divW x y).2))), x6', x7, none, none, none, none] m = .ok [wd (subW a (mulW (divW x y).1 c)), wd (subW b (mulW (divW x y).1 d))] m := by
      refine evC_enc (W := W0) (C := callF W0 (lv + 4)) (s := [some (.dat (wd (mulW s x))), some (.dat (wd (mulW s y))), some (.dat (.tup [wd a, wd b])), some (.dat (.tup [wd c, wd d])), some (.dat (wd (divW x y).1)), some (.dat (wd (mulW s (divW x y).2))), x6', x7, none, none, none, none]) (src := [(.var 2), (.var 3)]) (ik := .zip) (ds := [.tup [wd a, wd b], .tup [wd c, wd d]]) (m := m) (vs := [.dat (.tup [wd a, wd b]), .dat (.tup [wd c, wd d])]) (m1 := m) (enc := fun x : List Rat × List Rat => D.tup [wd x.1, wd x.2]) (fun z => wd (subW z.1 (mulW (divW x y).1 z.2))) [(a, c), (b, d)] (by rfl) (by rfl) rfl (by simp) (fun z hz => ?_)
      rcases List.mem_cons.mp hz with rfl | hz
      · refine turn0 rfl ?_
        simp [x_nil, x_cons, x_set, x_setT, x_par, x_ife, x_ret, x_retf, n_lst, n_call, x_newl, x_exp, bi_ok, bi_bad, of_some, lk_dat, lks_nil, lks_cons, do_nil, do_cons, op_some, ob_some, b_add, b_sub, c_lt, c_le, c_gt, c_ge, c_eqS, c_neS, c_eqI, c_neI, c_eqB, c_neB, c_eqT, c_neT, c_eqL, c_neL, c_isB, c_isntB, c_is, c_isnt, eq_int, eq_bl, eq_pair, t_bl, t_int, t_lst, t_tup, l_tup, l_lst, l_scr, l_abs, l_int, l_intB, l_max, l_min, l_tt, l_tl, l_all, l_any, l_repr, s_tup, s_lst, s_scr, i_tt, i_ii, i_ib, i_it, ix0, ix1, ix2, v_var, v_cst, v_glo, v_tup, v_lst, v_lsts, d_nil, d_star, d_one, l_max1, l_min1, l_sum, v_bin, v_neg, v_nt, v_cmp, v_chain, v_and, v_or, v_ite, v_sub, v_rev, v_call, v_blt, v_isi, v_comp, evs, evAnd, evOr, evIfs, evT, evTAnd, evTOr, parS, bi_asc, tgD, tgDs, wipeS, slotsOf, slotsOfs, szk, c2, c4]
      · rw [List.mem_singleton] at hz
        subst hz
        refine turn0 rfl ?_
        simp [x_nil, x_cons, x_set, x_setT, x_par, x_ife, x_ret, x_retf, n_lst, n_call, x_newl, x_exp, bi_ok, bi_bad, of_some, lk_dat, lks_nil, lks_cons, do_nil, do_cons, op_some, ob_some, b_add, b_sub, c_lt, c_le, c_gt, c_ge, c_eqS, c_neS, c_eqI, c_neI, c_eqB, c_neB, c_eqT, c_neT, c_eqL, c_neL, c_isB, c_isntB, c_is, c_isnt, eq_int, eq_bl, eq_pair, t_bl, t_int, t_lst, t_tup, l_tup, l_lst, l_scr, l_abs, l_int, l_intB, l_max, l_min, l_tt, l_tl, l_all, l_any, l_repr, s_tup, s_lst, s_scr, i_tt, i_ii, i_ib, i_it, ix0, ix1, ix2, v_var, v_cst, v_glo, v_tup, v_lst, v_lsts, d_nil, d_star, d_one, l_max1, l_min1, l_sum, v_bin, v_neg, v_nt, v_cmp, v_chain, v_and, v_or, v_ite, v_sub, v_rev, v_call, v_blt, v_isi, v_comp, evs, evAnd, evOr, evIfs, evT, evTAnd, evTOr, parS, bi_asc, tgD, tgDs, wipeS, slotsOf, slotsOfs, szk, c3, c5]
    refine ⟨[some (.dat (wd (mulW s y))), some (.dat (wd (mulW s (divW x y).2))), some (.dat (.tup [wd c, wd d])), some (.dat (.tup [wd (subW a (mulW (divW x y).1 c)), wd (subW b (mulW (divW x y).1 d))])), some (.dat (wd (divW x y).1)), some (.dat (wd (mulW s (divW x y).2))), x6', some (.dat (.tup [wd (subW a (mulW (divW x y).1 c)), wd (subW b (mulW (divW x y).1 d))])), none, none, none, none], ?_, ⟨_, _, _, _, rfl⟩, hE.step y0⟩
    have ew : D.tup [] = wd [] := rfl
    simp [whlStep, x_nil, x_cons, x_set, x_setT, x_par, x_ife, x_ret, x_retf, n_lst, n_call, x_newl, x_exp, bi_ok, bi_bad, of_some, lk_dat, lks_nil, lks_cons, do_nil, do_cons, op_some, ob_some, b_add, b_sub, c_lt, c_le, c_gt, c_ge, c_eqS, c_neS, c_eqI, c_neI, c_eqB, c_neB, c_eqT, c_neT, c_eqL, c_neL, c_isB, c_isntB, c_is, c_isnt, eq_int, eq_bl, eq_pair, t_bl, t_int, t_lst, t_tup, l_tup, l_lst, l_scr, l_abs, l_int, l_intB, l_max, l_min, l_tt, l_tl, l_all, l_any, l_repr, s_tup, s_lst, s_scr, i_tt, i_ii, i_ib, i_it, ix0, ix1, ix2, v_var, v_cst, v_glo, v_tup, v_lst, v_lsts, d_nil, d_star, d_one, l_max1, l_min1, l_sum, v_bin, v_neg, v_nt, v_cmp, v_chain, v_and, v_or, v_ite, v_sub, v_rev, v_call, v_blt, v_isi, v_comp, evs, evAnd, evOr, evIfs, evT, evTAnd, evTOr, parS, bi_asc, tgD, tgDs, wipeS, slotsOf, slotsOfs, szk, ne_wd, hn, ew, c1, tgD, tgDs, ec]
  · rintro st g2 g3 ⟨⟨x4, x5, x6, x7, rfl⟩, hE'⟩
    have egr : euc 10 x y [1] [] [] [1] = eu x y := rfl
    rw [egr] at hE' ⊢
    by_cases g0 : (eu x y).1 = []
    · have h0 : hd s x y = 0 := by
        unfold hd
        rw [g0, mulW_nil']
        exact one_div0
      rw [h0, sc0, sc0, g0, mulW_nil', mon_nil]
      simp [x_nil, x_cons, x_set, x_setT, x_par, x_ife, x_ret, x_retf, n_lst, n_call, x_newl, x_exp, bi_ok, bi_bad, of_some, lk_dat, lks_nil, lks_cons, do_nil, do_cons, op_some, ob_some, b_add, b_sub, c_lt, c_le, c_gt, c_ge, c_eqS, c_neS, c_eqI, c_neI, c_eqB, c_neB, c_eqT, c_neT, c_eqL, c_neL, c_isB, c_isntB, c_is, c_isnt, eq_int, eq_bl, eq_pair, t_bl, t_int, t_lst, t_tup, l_tup, l_lst, l_scr, l_abs, l_int, l_intB, l_max, l_min, l_tt, l_tl, l_all, l_any, l_repr, s_tup, s_lst, s_scr, i_tt, i_ii, i_ib, i_it, ix0, ix1, ix2, v_var, v_cst, v_glo, v_tup, v_lst, v_lsts, d_nil, d_star, d_one, l_max1, l_min1, l_sum, v_bin, v_neg, v_nt, v_cmp, v_chain, v_and, v_or, v_ite, v_sub, v_rev, v_call, v_blt, v_isi, v_comp, evs, evAnd, evOr, evIfs, evT, evTAnd, evTOr, parS, bi_asc, tgD, tgDs, wipeS, slotsOf, slotsOfs, szk, eqn]
      rfl
    · have sg := mul_ne hs.tr hE'.cx.tr s0 g0
      have u0 : Ud (eu x y).1.length ≤ 170 := ud_le 1 _ (List.length_pos_iff.mpr g0)
      have csg := hs.mul hE'.cx
      have sl := s_lc sg.2.2
      have hlne := lc_ne (tr_mul s (eu x y).1) sg.2.2
      have c1 : callF W0 (lv + 4) 32 [.dat (.tup [.int 1, .int 1]), .dat (fr (lc (mulW s (eu x y).1)))] m = .ok (.vl (.dat (fr (hd s x y)))) m := law_over_ok (lv + 2) 4400 m 1 (lc (mulW s (eu x y).1)) (num_ne hlne) (nb_bd nb_one (by decide)) (nb_bd csg.lead (by omega)) (by decide)
      have nh : Nb (1 + (3 + Ud (eu x y).1.length + 4)) (hd s x y) := nb_one.div csg.lead hlne
      have v1 : Vd (eu x y).1.length ≤ 600 := vd1 (List.length_pos_iff.mpr g0)
      have l1 := ld1 (eu x y).1.length
      have c2 := law_sc_ok (lv + 1) _ _ _ m (hd s x y) (mulW s (eu x y).1) nh csg (by omega) (by omega) (by decide)
      have c3 := law_sc_ok (lv + 1) _ _ _ m (hd s x y) (eu x y).2.1 nh hE'.f0 (by omega) (by omega) (by omega)
      have c4 := law_sc_ok (lv + 1) _ _ _ m (hd s x y) (eu x y).2.2 nh hE'.f1 (by omega) (by omega) (by omega)
      have em : mon (mulW s (eu x y).1) = scW (hd s x y) (mulW s (eu x y).1) := rfl
      rw [em]
      simp [x_nil, x_cons, x_set, x_setT, x_par, x_ife, x_ret, x_retf, n_lst, n_call, x_newl, x_exp, bi_ok, bi_bad, of_some, lk_dat, lks_nil, lks_cons, do_nil, do_cons, op_some, ob_some, b_add, b_sub, c_lt, c_le, c_gt, c_ge, c_eqS, c_neS, c_eqI, c_neI, c_eqB, c_neB, c_eqT, c_neT, c_eqL, c_neL, c_isB, c_isntB, c_is, c_isnt, eq_int, eq_bl, eq_pair, t_bl, t_int, t_lst, t_tup, l_tup, l_lst, l_scr, l_abs, l_int, l_intB, l_max, l_min, l_tt, l_tl, l_all, l_any, l_repr, s_tup, s_lst, s_scr, i_tt, i_ii, i_ib, i_it, ix0, ix1, ix2, v_var, v_cst, v_glo, v_tup, v_lst, v_lsts, d_nil, d_star, d_one, l_max1, l_min1, l_sum, v_bin, v_neg, v_nt, v_cmp, v_chain, v_and, v_or, v_ite, v_sub, v_rev, v_call, v_blt, v_isi, v_comp, evs, evAnd, evOr, evIfs, evT, evTAnd, evTOr, parS, bi_asc, tgD, tgDs, wipeS, slotsOf, slotsOfs, szk, eqn, sg.2.2, sl, c1, c2]
      refine bind_evC (enc := wd) (fun w => wd (scW (hd s x y) w)) [(eu x y).2.1, (eu x y).2.2] rfl rfl rfl (by simp) (fun z hz => ?_) ?_
      · rcases List.mem_cons.mp hz with rfl | hz
        · refine turn0 rfl ?_
          simp [x_nil, x_cons, x_set, x_setT, x_par, x_ife, x_ret, x_retf, n_lst, n_call, x_newl, x_exp, bi_ok, bi_bad, of_some, lk_dat, lks_nil, lks_cons, do_nil, do_cons, op_some, ob_some, b_add, b_sub, c_lt, c_le, c_gt, c_ge, c_eqS, c_neS, c_eqI, c_neI, c_eqB, c_neB, c_eqT, c_neT, c_eqL, c_neL, c_isB, c_isntB, c_is, c_isnt, eq_int, eq_bl, eq_pair, t_bl, t_int, t_lst, t_tup, l_tup, l_lst, l_scr, l_abs, l_int, l_intB, l_max, l_min, l_tt, l_tl, l_all, l_any, l_repr, s_tup, s_lst, s_scr, i_tt, i_ii, i_ib, i_it, ix0, ix1, ix2, v_var, v_cst, v_glo, v_tup, v_lst, v_lsts, d_nil, d_star, d_one, l_max1, l_min1, l_sum, v_bin, v_neg, v_nt, v_cmp, v_chain, v_and, v_or, v_ite, v_sub, v_rev, v_call, v_blt, v_isi, v_comp, evs, evAnd, evOr, evIfs, evT, evTAnd, evTOr, parS, bi_asc, tgD, tgDs, wipeS, slotsOf, slotsOfs, szk, c3]
        · rw [List.mem_singleton] at hz
          subst hz
          refine turn0 rfl ?_
          simp [x_nil, x_cons, x_set, x_setT, x_par, x_ife, x_ret, x_retf, n_lst, n_call, x_newl, x_exp, bi_ok, bi_bad, of_some, lk_dat, lks_nil, lks_cons, do_nil, do_cons, op_some, ob_some, b_add, b_sub, c_lt, c_le, c_gt, c_ge, c_eqS, c_neS, c_eqI, c_neI, c_eqB, c_neB, c_eqT, c_neT, c_eqL, c_neL, c_isB, c_isntB, c_is, c_isnt, eq_int, eq_bl, eq_pair, t_bl, t_int, t_lst, t_tup, l_tup, l_lst, l_scr, l_abs, l_int, l_intB, l_max, l_min, l_tt, l_tl, l_all, l_any, l_repr, s_tup, s_lst, s_scr, i_tt, i_ii, i_ib, i_it, ix0, ix1, ix2, v_var, v_cst, v_glo, v_tup, v_lst, v_lsts, d_nil, d_star, d_one, l_max1, l_min1, l_sum, v_bin, v_neg, v_nt, v_cmp, v_chain, v_and, v_or, v_ite, v_sub, v_rev, v_call, v_blt, v_isi, v_comp, evs, evAnd, evOr, evIfs, evT, evTAnd, evTOr, parS, bi_asc, tgD, tgDs, wipeS, slotsOf, slotsOfs, szk, c4]
      · simp [x_nil, x_cons, x_set, x_setT, x_par, x_ife, x_ret, x_retf, n_lst, n_call, x_newl, x_exp, bi_ok, bi_bad, of_some, lk_dat, lks_nil, lks_cons, do_nil, do_cons, op_some, ob_some, b_add, b_sub, c_lt, c_le, c_gt, c_ge, c_eqS, c_neS, c_eqI, c_neI, c_eqB, c_neB, c_eqT, c_neT, c_eqL, c_neL, c_isB, c_isntB, c_is, c_isnt, eq_int, eq_bl, eq_pair, t_bl, t_int, t_lst, t_tup, l_tup, l_lst, l_scr, l_abs, l_int, l_intB, l_max, l_min, l_tt, l_tl, l_all, l_any, l_repr, s_tup, s_lst, s_scr, i_tt, i_ii, i_ib, i_it, ix0, ix1, ix2, v_var, v_cst, v_glo, v_tup, v_lst, v_lsts, d_nil, d_star, d_one, l_max1, l_min1, l_sum, v_bin, v_neg, v_nt, v_cmp, v_chain, v_and, v_or, v_ite, v_sub, v_rev, v_call, v_blt, v_isi, v_comp, evs, evAnd, evOr, evIfs, evT, evTAnd, evTOr, parS, bi_asc, tgD, tgDs, wipeS, slotsOf, slotsOfs, szk]
end K24

set_option Elab.async false
set_option linter.all false
set_option maxRecDepth 100000
set_option maxHeartbeats 1000000
set_option exponentiation.threshold 10000
namespace K24
open PySem EV POLY
/-! ### what the common word is -/
def gam (s x y : List Rat) : List Rat := scW (hd s x y) (eu x y).1
theorem sc_dv {c : Rat} {g : List Rat} (hc : c ≠ 0) (h : trim g) : Dv (scW c g) g := by
  have t1 : trim [1 / c] := fun _ => by rw [List.getLast_singleton]; exact inv_ne hc
  refine ⟨[1 / c], t1, trim_eq h (tr_mul _ _) fun n => ?_⟩
  rw [cf_mulW, act_cons, cf_scW]
  have : sh (act [] (cf (scW c g))) n = 0 := by cases n <;> rfl
  rw [this, Rat.add_zero, ← Rat.mul_assoc, Rat.div_mul_cancel hc, Rat.one_mul]
structure Cw (s x y : List Rat) : Prop where
  hs : Cd 3 4 s
  s0 : s ≠ []
  hE : Es x y [1] [] [] [1]
  hx : Cd 3 5 x
  hy : Cd 3 5 y
section
variable {s x y : List Rat}
theorem Cw.gc (h : Cw s x y) : trim (eu x y).1 ∧ Gc x y (eu x y).1 := euc_gc 10 x y [1] [] [] [1] h.hx.tr h.hy.tr (by have := h.hy.ln; omega)
theorem Cw.es (h : Cw s x y) : ∃ g2 g3, Es (eu x y).1 [] (eu x y).2.1 (eu x y).2.2 g2 g3 := euc_es 10 x y [1] [] [] [1] h.hE (by have := h.hy.ln; omega)
theorem Cw.nil (h : Cw s x y) (g0 : (eu x y).1 = []) : x = [] ∧ y = [] := by
  have := h.gc.2
  rw [g0] at this
  exact ⟨this.l.of_nil, this.r.of_nil⟩
theorem Cw.hdne (h : Cw s x y) (g0 : (eu x y).1 ≠ []) : hd s x y ≠ 0 := inv_ne (lc_ne (tr_mul _ _) (mul_ne h.hs.tr h.gc.1 h.s0 g0).2.2)
theorem mon_gam (s x y : List Rat) : mon (mulW s (eu x y).1) = mulW s (gam s x y) := by
  show scW (hd s x y) _ = _
  rw [gam, mulW_scW]
theorem Cw.g0 (h : Cw s x y) (g0 : (eu x y).1 ≠ []) : gam s x y ≠ [] := fun z => by
  have := sc_dv (h.hdne g0) h.gc.1
  have e : scW (hd s x y) (eu x y).1 = [] := z
  rw [e] at this
  exact g0 this.of_nil
theorem Cw.gcd (h : Cw s x y) (g0 : (eu x y).1 ≠ []) : Cd 90 5 (gam s x y) := by
  obtain ⟨g2, g3, hE⟩ := h.es
  have sg := mul_ne h.hs.tr h.gc.1 h.s0 g0
  have hlne := lc_ne (tr_mul s (eu x y).1) sg.2.2
  have csg := h.hs.mul hE.cx
  by_cases h1 : (eu x y).1.length = 1
  · obtain ⟨c, ec⟩ : ∃ c, (eu x y).1 = [c] := by
      match (eu x y).1, h1 with
      | [c], _ => exact ⟨c, rfl⟩
    have hc : c ≠ 0 := by
      have := h.gc.1 g0
      simp only [ec, List.getLast_singleton] at this
      exact this
    have hls := lc_ne h.hs.tr h.s0
    have e : gam s x y = POLY.mono (1 / lc s) 0 := by
      have el : lc [c] = c := rfl
      have e2 : lc (mulW s (eu x y).1) = lc s * c := by rw [sg.2.1, ec, el]
      unfold gam hd
      rw [e2, ec, sc_ne (inv_ne (by rw [← e2]; exact hlne)) (fun _ => by rw [List.getLast_singleton]; exact hc)]
      show [1 / (lc s * c) * c] = [1 / lc s]
      congr 1
      grind
    rw [e]
    exact (Cd.mono1 (nb_one.div h.hs.lead hls) (inv_ne hls) 0).mono (by decide) (by decide)
  · have l1 := List.length_pos_iff.mpr g0
    have u0 : Ud (eu x y).1.length ≤ 40 := ud_le 2 _ (by omega)
    have nh : Nb (1 + (3 + Ud (eu x y).1.length + 4)) (hd s x y) := nb_one.div csg.lead hlne
    exact (hE.cx.sc nh).mono (by omega) (Nat.le_refl _)
theorem Cw.dx (h : Cw s x y) (g0 : (eu x y).1 ≠ []) : Dv (gam s x y) x := (sc_dv (h.hdne g0) h.gc.1).trans h.gc.2.l
theorem Cw.dy (h : Cw s x y) (g0 : (eu x y).1 ≠ []) : Dv (gam s x y) y := (sc_dv (h.hdne g0) h.gc.1).trans h.gc.2.r
theorem dv_div {g a : List Rat} (hg : trim g) (g0 : g ≠ []) (h : Dv g a) : a = mulW (divW a g).1 g ∧ (divW a g).2 = [] ∧ trim (divW a g).1 := by
  obtain ⟨q, hq, rfl⟩ := h
  rw [div_exact hq hg g0]
  exact ⟨rfl, rfl, hq⟩
theorem Cw.lin (h : Cw s x y) : addW (mulW (scW (hd s x y) (eu x y).2.1) (mulW s x)) (mulW (scW (hd s x y) (eu x y).2.2) (mulW s y)) = mulW s (gam s x y) := by
  have e := euc_lin (A := x) (B := y) 10 x y [1] [] [] [1] h.hx.tr h.hy.tr (by have := h.hy.ln; omega) (by rw [mulW_one h.hx.tr, mulW_nil, addW_nil' h.hx.tr]) (by rw [mulW_one h.hy.tr, mulW_nil, addW_nil h.hy.tr])
  have e : addW (mulW (eu x y).2.1 x) (mulW (eu x y).2.2 y) = (eu x y).1 := e
  have c : ∀ f z, mulW (scW (hd s x y) f) (mulW s z) = mulW s (scW (hd s x y) (mulW f z)) := fun f z => by
    rw [scW_mulW, mulW_scW, ← mulW_assoc, ← mulW_assoc, mulW_comm f s]
  rw [c, c, ← mulW_addW, ← scW_addW, e, gam]
/-- the common word and what makes it -/
def pw (s x y : List Rat) : List (List Rat) := if (eu x y).1 = [] then [[], [], [], [], []] else [mulW s (gam s x y), (divW x (gam s x y)).1, (divW y (gam s x y)).1, scW (hd s x y) (eu x y).2.1, scW (hd s x y) (eu x y).2.2]
theorem common_ok (lv : Nat) (m : Sto) (h : Cw s x y) : callF W0 (lv + 8) 23 [.dat (wd (mulW s x)), .dat (wd (mulW s y))] m = .ok (.vl (.dat (wd (mulW s (gam s x y))))) m := by
  rw [c_common]
  refine ru_dat rfl rfl rfl rfl ?_
  have c := common_sum_ok lv m s x y h.hs h.s0 h.hE
  rw [mon_gam] at c
  simp [d_common, b_common, x_nil, x_cons, x_set, x_setT, x_par, x_ife, x_ret, x_retf, n_lst, n_call, x_newl, x_exp, bi_ok, bi_bad, of_some, lk_dat, lks_nil, lks_cons, do_nil, do_cons, op_some, ob_some, b_add, b_sub, c_lt, c_le, c_gt, c_ge, c_eqS, c_neS, c_eqI, c_neI, c_eqB, c_neB, c_eqT, c_neT, c_eqL, c_neL, c_isB, c_isntB, c_is, c_isnt, eq_int, eq_bl, eq_pair, t_bl, t_int, t_lst, t_tup, l_tup, l_lst, l_scr, l_abs, l_int, l_intB, l_max, l_min, l_tt, l_tl, l_all, l_any, l_repr, s_tup, s_lst, s_scr, i_tt, i_ii, i_ib, i_it, ix0, ix1, ix2, v_var, v_cst, v_glo, v_tup, v_lst, v_lsts, d_nil, d_star, d_one, l_max1, l_min1, l_sum, v_bin, v_neg, v_nt, v_cmp, v_chain, v_and, v_or, v_ite, v_sub, v_rev, v_call, v_blt, v_isi, v_comp, evs, evAnd, evOr, evIfs, evT, evTAnd, evTOr, parS, bi_asc, tgD, tgDs, wipeS, slotsOf, slotsOfs, szk, reqC_ok (lv + 2) _ _ m _ (h.hs.mul h.hx) (by decide) (by decide), reqC_ok (lv + 2) _ _ m _ (h.hs.mul h.hy) (by decide) (by decide), c]
theorem pt_ok : ∀ e, e < 6 → 1 + Pt e 3 90 ≤ 1400 ∧ 3 + e * 91 ≤ 460 := by decide
theorem Cw.lim (h : Cw s x y) (g0 : (eu x y).1 ≠ []) {z : List Rat} (hz : Cd 3 5 z) : 1 + Pt (z.length + 1 - (gam s x y).length) 3 90 ≤ 1400 ∧ 3 + (z.length + 1 - (gam s x y).length) * (90 + 1) ≤ 460 := by
  have l1 := List.length_pos_iff.mpr (h.g0 g0)
  have l2 := hz.ln
  exact pt_ok _ (by omega)
theorem Cw.q (h : Cw s x y) (g0 : (eu x y).1 ≠ []) {z : List Rat} (hz : Cd 3 5 z) : Cd 1400 5 (divW z (gam s x y)).1 := (dvl_bs (h.gcd g0) (h.g0 g0) (z.length + 1) [] z (Bs.init hz)).t.mono (h.lim g0 hz).1 (Nat.le_refl _)
theorem common_paper_ok (lv : Nat) (m : Sto) (h : Cw s x y) : callF W0 (lv + 8) 24 [.dat (wd (mulW s x)), .dat (wd (mulW s y))] m = .ok (.vl (.dat (.tup ((pw s x y).map wd)))) m := by
  rw [c_common_paper]
  refine ru_dat rfl rfl rfl rfl ?_
  have c := common_sum_ok lv m s x y h.hs h.s0 h.hE
  rw [mon_gam] at c
  by_cases g0 : (eu x y).1 = []
  · have e0 : mulW s (gam s x y) = [] := by
      have : gam s x y = [] := by unfold gam; rw [g0]; rfl
      rw [this, mulW_nil']
    rw [e0] at c
    have ep : (D.tup ((pw s x y).map wd)) = .tup [.tup [], .tup [], .tup [], .tup [], .tup []] := by unfold pw; rw [if_pos g0]; rfl
    rw [ep]
    simp [d_common_paper, b_common_paper, x_nil, x_cons, x_set, x_setT, x_par, x_ife, x_ret, x_retf, n_lst, n_call, x_newl, x_exp, bi_ok, bi_bad, of_some, lk_dat, lks_nil, lks_cons, do_nil, do_cons, op_some, ob_some, b_add, b_sub, c_lt, c_le, c_gt, c_ge, c_eqS, c_neS, c_eqI, c_neI, c_eqB, c_neB, c_eqT, c_neT, c_eqL, c_neL, c_isB, c_isntB, c_is, c_isnt, eq_int, eq_bl, eq_pair, t_bl, t_int, t_lst, t_tup, l_tup, l_lst, l_scr, l_abs, l_int, l_intB, l_max, l_min, l_tt, l_tl, l_all, l_any, l_repr, s_tup, s_lst, s_scr, i_tt, i_ii, i_ib, i_it, ix0, ix1, ix2, v_var, v_cst, v_glo, v_tup, v_lst, v_lsts, d_nil, d_star, d_one, l_max1, l_min1, l_sum, v_bin, v_neg, v_nt, v_cmp, v_chain, v_and, v_or, v_ite, v_sub, v_rev, v_call, v_blt, v_isi, v_comp, evs, evAnd, evOr, evIfs, evT, evTAnd, evTOr, parS, bi_asc, tgD, tgDs, wipeS, slotsOf, slotsOfs, szk, reqC_ok (lv + 2) _ _ m _ (h.hs.mul h.hx) (by decide) (by decide), reqC_ok (lv + 2) _ _ m _ (h.hs.mul h.hy) (by decide) (by decide), c, tgD, tgDs, eqn]
  · have e0 : ¬ mulW s (gam s x y) = [] := fun z => h.g0 g0 ((mul_nil_iff h.hs.tr h.s0 (h.gcd g0).tr).mp z)
    obtain ⟨t1, t2⟩ := h.lim g0 h.hx
    obtain ⟨t3, t4⟩ := h.lim g0 h.hy
    have c1 := divided_word_ok (lv + 1) 3 90 1400 460 m s x (gam s x y) h.hs h.s0 h.hx (h.gcd g0) (h.g0 g0) t1 t2 (by decide) (by decide)
    have c2 := divided_word_ok (lv + 1) 3 90 1400 460 m s y (gam s x y) h.hs h.s0 h.hy (h.gcd g0) (h.g0 g0) t3 t4 (by decide) (by decide)
    have ep : (D.tup ((pw s x y).map wd)) = .tup [wd (mulW s (gam s x y)), wd (divW x (gam s x y)).1, wd (divW y (gam s x y)).1, wd (scW (hd s x y) (eu x y).2.1), wd (scW (hd s x y) (eu x y).2.2)] := by unfold pw; rw [if_neg g0]; rfl
    rw [ep]
    simp [d_common_paper, b_common_paper, x_nil, x_cons, x_set, x_setT, x_par, x_ife, x_ret, x_retf, n_lst, n_call, x_newl, x_exp, bi_ok, bi_bad, of_some, lk_dat, lks_nil, lks_cons, do_nil, do_cons, op_some, ob_some, b_add, b_sub, c_lt, c_le, c_gt, c_ge, c_eqS, c_neS, c_eqI, c_neI, c_eqB, c_neB, c_eqT, c_neT, c_eqL, c_neL, c_isB, c_isntB, c_is, c_isnt, eq_int, eq_bl, eq_pair, t_bl, t_int, t_lst, t_tup, l_tup, l_lst, l_scr, l_abs, l_int, l_intB, l_max, l_min, l_tt, l_tl, l_all, l_any, l_repr, s_tup, s_lst, s_scr, i_tt, i_ii, i_ib, i_it, ix0, ix1, ix2, v_var, v_cst, v_glo, v_tup, v_lst, v_lsts, d_nil, d_star, d_one, l_max1, l_min1, l_sum, v_bin, v_neg, v_nt, v_cmp, v_chain, v_and, v_or, v_ite, v_sub, v_rev, v_call, v_blt, v_isi, v_comp, evs, evAnd, evOr, evIfs, evT, evTAnd, evTOr, parS, bi_asc, tgD, tgDs, wipeS, slotsOf, slotsOfs, szk, reqC_ok (lv + 2) _ _ m _ (h.hs.mul h.hx) (by decide) (by decide), reqC_ok (lv + 2) _ _ m _ (h.hs.mul h.hy) (by decide) (by decide), c, c1, c2, tgD, tgDs, eqn, e0]
/-! ### the law's quotient -/
theorem law_quotient0 (lv : Nat) (m : Sto) (d : D) : callF W0 (lv + 5) 47 [.dat (wd []), .dat d] m = .ok (.vl (.dat (wd []))) m := by
  rw [c_law_quotient]
  refine ru_dat rfl rfl rfl rfl ?_
  have e : whlMost = 1099511627775 + 1 := by decide
  simp only [d_law_quotient, b_law_quotient]
  refine st1 (s' := [some (.dat (wd [])), some (.dat d), some (.dat (wd [])), none]) (m' := m) (by simp [x_nil, x_cons, x_set, x_setT, x_par, x_ife, x_ret, x_retf, n_lst, n_call, x_newl, x_exp, bi_ok, bi_bad, of_some, lk_dat, lks_nil, lks_cons, do_nil, do_cons, op_some, ob_some, b_add, b_sub, c_lt, c_le, c_gt, c_ge, c_eqS, c_neS, c_eqI, c_neI, c_eqB, c_neB, c_eqT, c_neT, c_eqL, c_neL, c_isB, c_isntB, c_is, c_isnt, eq_int, eq_bl, eq_pair, t_bl, t_int, t_lst, t_tup, l_tup, l_lst, l_scr, l_abs, l_int, l_intB, l_max, l_min, l_tt, l_tl, l_all, l_any, l_repr, s_tup, s_lst, s_scr, i_tt, i_ii, i_ib, i_it, ix0, ix1, ix2, v_var, v_cst, v_glo, v_tup, v_lst, v_lsts, d_nil, d_star, d_one, l_max1, l_min1, l_sum, v_bin, v_neg, v_nt, v_cmp, v_chain, v_and, v_or, v_ite, v_sub, v_rev, v_call, v_blt, v_isi, v_comp, evs, evAnd, evOr, evIfs, evT, evTAnd, evTOr, parS, bi_asc, tgD, tgDs, wipeS, slotsOf, slotsOfs, szk]; rfl) ?_
  rw [x_cons, x_whl, e]
  unfold whlF
  simp [whlStep, x_nil, x_cons, x_set, x_setT, x_par, x_ife, x_ret, x_retf, n_lst, n_call, x_newl, x_exp, bi_ok, bi_bad, of_some, lk_dat, lks_nil, lks_cons, do_nil, do_cons, op_some, ob_some, b_add, b_sub, c_lt, c_le, c_gt, c_ge, c_eqS, c_neS, c_eqI, c_neI, c_eqB, c_neB, c_eqT, c_neT, c_eqL, c_neL, c_isB, c_isntB, c_is, c_isnt, eq_int, eq_bl, eq_pair, t_bl, t_int, t_lst, t_tup, l_tup, l_lst, l_scr, l_abs, l_int, l_intB, l_max, l_min, l_tt, l_tl, l_all, l_any, l_repr, s_tup, s_lst, s_scr, i_tt, i_ii, i_ib, i_it, ix0, ix1, ix2, v_var, v_cst, v_glo, v_tup, v_lst, v_lsts, d_nil, d_star, d_one, l_max1, l_min1, l_sum, v_bin, v_neg, v_nt, v_cmp, v_chain, v_and, v_or, v_ite, v_sub, v_rev, v_call, v_blt, v_isi, v_comp, evs, evAnd, evOr, evIfs, evT, evTAnd, evTOr, parS, bi_asc, tgD, tgDs, wipeS, slotsOf, slotsOfs, szk, nen]
theorem law_quotient_ok (lv kx ky KT KR : Nat) (m : Sto) (s x y : List Rat) (hs : Cd 3 4 s) (s0 : s ≠ []) (hx : Cd kx 5 x) (hy : Cd ky 5 y) (y0 : y ≠ []) (hdv : Dv y x) (hT : 1 + Pt (x.length + 1 - y.length) kx ky ≤ KT) (hR : kx + (x.length + 1 - y.length) * (ky + 1) ≤ KR) (h1 : KT ≤ 4300) (h2 : KR + 2 * ky + 60 ≤ 4400) :
    callF W0 (lv + 5) 47 [.dat (wd (mulW s x)), .dat (wd (mulW s y))] m = .ok (.vl (.dat (wd (divW x y).1))) m := by
  rw [c_law_quotient]
  refine ru_dat rfl rfl rfl rfl ?_
  simp only [d_law_quotient, b_law_quotient]
  have hsy := mul_ne hs.tr hy.tr s0 y0
  have csy := hs.mul hy
  have sl := s_lc hsy.2.2
  have hlne := lc_ne (tr_mul s y) hsy.2.2
  have ly1 := List.length_pos_iff.mpr y0
  refine st1 (s' := [some (.dat (wd (mulW s x))), some (.dat (wd (mulW s y))), some (.dat (wd [])), none]) (m' := m) (by simp [x_nil, x_cons, x_set, x_setT, x_par, x_ife, x_ret, x_retf, n_lst, n_call, x_newl, x_exp, bi_ok, bi_bad, of_some, lk_dat, lks_nil, lks_cons, do_nil, do_cons, op_some, ob_some, b_add, b_sub, c_lt, c_le, c_gt, c_ge, c_eqS, c_neS, c_eqI, c_neI, c_eqB, c_neB, c_eqT, c_neT, c_eqL, c_neL, c_isB, c_isntB, c_is, c_isnt, eq_int, eq_bl, eq_pair, t_bl, t_int, t_lst, t_tup, l_tup, l_lst, l_scr, l_abs, l_int, l_intB, l_max, l_min, l_tt, l_tl, l_all, l_any, l_repr, s_tup, s_lst, s_scr, i_tt, i_ii, i_ib, i_it, ix0, ix1, ix2, v_var, v_cst, v_glo, v_tup, v_lst, v_lsts, d_nil, d_star, d_one, l_max1, l_min1, l_sum, v_bin, v_neg, v_nt, v_cmp, v_chain, v_and, v_or, v_ite, v_sub, v_rev, v_call, v_blt, v_isi, v_comp, evs, evAnd, evOr, evIfs, evT, evTAnd, evTOr, parS, bi_asc, tgD, tgDs, wipeS, slotsOf, slotsOfs, szk]; rfl) ?_
  rw [x_cons, x_whl]
  refine bind_dv (x := x) hy.tr y0 (fun t r st => ∃ x3, st = [some (.dat (wd (mulW s r))), some (.dat (wd (mulW s y))), some (.dat (wd t)), x3] ∧ Bs y ky KT KR t r ∧ Dv y r) ⟨none, rfl, ?_, hdv⟩ (by have := hx.ln; omega) ?_ ?_ ?_
  · exact ⟨1, kx, x.length + 1 - y.length, Cd.nil 1 5 (by decide), hx, by omega, hT, hR⟩
  · rintro t r st ⟨x3, rfl, hb, q, hq, eq⟩ hl
    have r0 : r = [] := by
      by_cases q0 : q = []
      · rw [eq, q0, mulW_nil]
      · have := (mul_ne hq hy.tr q0 y0).1
        rw [← eq] at this
        have := List.length_pos_iff.mpr q0
        omega
    rw [r0, mulW_nil']
    simp [whlStep, x_nil, x_cons, x_set, x_setT, x_par, x_ife, x_ret, x_retf, n_lst, n_call, x_newl, x_exp, bi_ok, bi_bad, of_some, lk_dat, lks_nil, lks_cons, do_nil, do_cons, op_some, ob_some, b_add, b_sub, c_lt, c_le, c_gt, c_ge, c_eqS, c_neS, c_eqI, c_neI, c_eqB, c_neB, c_eqT, c_neT, c_eqL, c_neL, c_isB, c_isntB, c_is, c_isnt, eq_int, eq_bl, eq_pair, t_bl, t_int, t_lst, t_tup, l_tup, l_lst, l_scr, l_abs, l_int, l_intB, l_max, l_min, l_tt, l_tl, l_all, l_any, l_repr, s_tup, s_lst, s_scr, i_tt, i_ii, i_ib, i_it, ix0, ix1, ix2, v_var, v_cst, v_glo, v_tup, v_lst, v_lsts, d_nil, d_star, d_one, l_max1, l_min1, l_sum, v_bin, v_neg, v_nt, v_cmp, v_chain, v_and, v_or, v_ite, v_sub, v_rev, v_call, v_blt, v_isi, v_comp, evs, evAnd, evOr, evIfs, evT, evTAnd, evTOr, parS, bi_asc, tgD, tgDs, wipeS, slotsOf, slotsOfs, szk, nen]
  · rintro t r st ⟨x3, rfl, hb, hdv⟩ hl
    have hn := (len_scale hs.tr s0 hb.r.tr hy.tr y0).mpr hl
    have r0 : r ≠ [] := fun z => by
      subst z
      have h' : y.length ≤ 0 := hl
      omega
    have hsr := mul_ne hs.tr hb.r.tr s0 r0
    have csr := hs.mul hb.r
    have slr := s_lc hsr.2.2
    have hd : ((mulW s r).length : Int) - (mulW s y).length = ((r.length - y.length : Nat) : Int) := by
      rw [hsr.1, hsy.1]
      have p1 := List.length_pos_iff.mpr s0
      omega
    have hp := hb.p hy y0 hl
    have c3 := law_over_ok (lv + 2) 4400 m (lc (mulW s r)) (lc (mulW s y)) (num_ne hlne) (nb_bd csr.lead (by omega)) (nb_bd csy.lead (by omega)) (by decide)
    rw [(lead_q hs.tr s0 hb.r.tr r0 hy.tr y0).2] at c3
    have c4 : callF W0 (lv + 4) 37 [.dat (.tup [fr (lc r / lc y)]), .dat (.int ((r.length - y.length : Nat) : Int))] m = .ok (.vl (.dat (wd (prt y r)))) m := by
      have := law_later_ok (lv + 3) m [lc r / lc y] (r.length - y.length) (by have := hb.r.ln; simp; omega)
      rw [if_neg (by simp)] at this
      exact this
    rw [← hd] at c4
    have c5 := plusC_ok (lv + 1) KT 5 KR 5 m t (prt y r) hb.t hp (by omega) (by omega) (by decide) (by decide)
    have c6 := timesC_ok (lv + 1) KR 5 (3 + ky + 4) (4 + 5) m (prt y r) (mulW s y) hp csy (by omega) (by decide)
    have c7 := law_minus_ok lv (3 + KR + 4) (4 + 5) (KR + (3 + ky + 4) + 5) (5 + (4 + 5)) m (mulW s r) (mulW (prt y r) (mulW s y)) csr (hp.mul csy) (by omega) (by omega) (by decide) (by decide)
    rw [dst_scale] at c7
    refine ⟨[some (.dat (wd (mulW s (dst y r)))), some (.dat (wd (mulW s y))), some (.dat (wd (addW t (prt y r)))), some (.dat (wd (prt y r)))], ?_, some (.dat (wd (prt y r))), rfl, hb.step hy y0 hl, hdv.sub ((Dv.refl hy.tr).mul _)⟩
    simp [whlStep, x_nil, x_cons, x_set, x_setT, x_par, x_ife, x_ret, x_retf, n_lst, n_call, x_newl, x_exp, bi_ok, bi_bad, of_some, lk_dat, lks_nil, lks_cons, do_nil, do_cons, op_some, ob_some, b_add, b_sub, c_lt, c_le, c_gt, c_ge, c_eqS, c_neS, c_eqI, c_neI, c_eqB, c_neB, c_eqT, c_neT, c_eqL, c_neL, c_isB, c_isntB, c_is, c_isnt, eq_int, eq_bl, eq_pair, t_bl, t_int, t_lst, t_tup, l_tup, l_lst, l_scr, l_abs, l_int, l_intB, l_max, l_min, l_tt, l_tl, l_all, l_any, l_repr, s_tup, s_lst, s_scr, i_tt, i_ii, i_ib, i_it, ix0, ix1, ix2, v_var, v_cst, v_glo, v_tup, v_lst, v_lsts, d_nil, d_star, d_one, l_max1, l_min1, l_sum, v_bin, v_neg, v_nt, v_cmp, v_chain, v_and, v_or, v_ite, v_sub, v_rev, v_call, v_blt, v_isi, v_comp, evs, evAnd, evOr, evIfs, evT, evTAnd, evTOr, parS, bi_asc, tgD, tgDs, wipeS, slotsOf, slotsOfs, szk, nen, l_wd, hsr.2.2, sl, slr, c3, c4, c5, c6, c7]
  · rintro st ⟨x3, rfl, hb, _⟩
    simp [x_nil, x_cons, x_set, x_setT, x_par, x_ife, x_ret, x_retf, n_lst, n_call, x_newl, x_exp, bi_ok, bi_bad, of_some, lk_dat, lks_nil, lks_cons, do_nil, do_cons, op_some, ob_some, b_add, b_sub, c_lt, c_le, c_gt, c_ge, c_eqS, c_neS, c_eqI, c_neI, c_eqB, c_neB, c_eqT, c_neT, c_eqL, c_neL, c_isB, c_isntB, c_is, c_isnt, eq_int, eq_bl, eq_pair, t_bl, t_int, t_lst, t_tup, l_tup, l_lst, l_scr, l_abs, l_int, l_intB, l_max, l_min, l_tt, l_tl, l_all, l_any, l_repr, s_tup, s_lst, s_scr, i_tt, i_ii, i_ib, i_it, ix0, ix1, ix2, v_var, v_cst, v_glo, v_tup, v_lst, v_lsts, d_nil, d_star, d_one, l_max1, l_min1, l_sum, v_bin, v_neg, v_nt, v_cmp, v_chain, v_and, v_or, v_ite, v_sub, v_rev, v_call, v_blt, v_isi, v_comp, evs, evAnd, evOr, evIfs, evT, evTAnd, evTOr, parS, bi_asc, tgD, tgDs, wipeS, slotsOf, slotsOfs, szk]
end
end K24

set_option Elab.async false
set_option linter.all false
set_option maxRecDepth 100000
set_option maxHeartbeats 2000000
set_option exponentiation.threshold 10000
namespace K24
open PySem EV POLY
/-! ### what is judged -/
/-- a comprehension with a test -/
theorem loop_flt {α : Type} {enc : α → D} {f : D → Sto → R (Option D)} {g : α → D} {m : Sto} (q : α → Bool) : ∀ {l : List α} {acc : List D}, (∀ x ∈ l, f (enc x) m = .ok (if q x = true then some (g x) else none) m) → loopC f (l.map enc) acc m = .ok (acc ++ (l.filter q).map g) m
  | [], acc, _ => by simp [loopC]
  | x :: xs, acc, h => by
    show loopC f (enc x :: xs.map enc) acc m = _
    unfold loopC
    rw [h x List.mem_cons_self, bi_ok]
    cases e : q x with
    | true =>
      simp only [if_true]
      rw [loop_flt q (l := xs) fun y hy => h y (List.mem_cons_of_mem _ hy)]
      simp [e]
    | false =>
      simp only [Bool.false_eq_true, if_false]
      rw [loop_flt q (l := xs) fun y hy => h y (List.mem_cons_of_mem _ hy)]
      simp [e]
theorem bind_evF {α β : Type} {W : Wd} {C : Cal} {s : Slots} {m m1 : Sto} {vs : List Vl} {ds : List D} {enc : α → D} {tg : Tg} {ik : IK} {src : List Ex} {ifs : List Tx} {elt : Ex} {z : R β} (g : α → D) (q : α → Bool) (l : List α) (hsrc : evs W C src s m = .ok vs m1) (hd : datsOf vs = some ds) (hw : walkD ik ds = some (l.map enc)) (hz : l.length ≤ 1000)
    (hx : ∀ x ∈ l, turnC W C tg ifs elt s (enc x) m1 = .ok (if q x = true then some (g x) else none) m1) {f : List D → Sto → R β} (k : f ((l.filter q).map g) m1 = z) : (evC W C tg ik src ifs elt s m).bind f = z := by
  have e : evC W C tg ik src ifs elt s m = .ok ((l.filter q).map g) m1 := by
    unfold evC
    rw [hsrc, bi_ok]
    simp only [hd, hw]
    rw [if_pos (szk (by rw [List.length_map]; exact hz)), loop_flt q hx]
    simp
  rw [e, bi_ok]
  exact k
theorem ones_sp {α : Type} (l : List α) : Sp 1 (.lst (l.map fun _ => D.int 1)) := by
  unfold Sp
  intro x hx
  obtain ⟨_, _, rfl⟩ := List.mem_map.mp hx
  unfold Sp
  trivial
theorem eqL1 {α : Type} (l : List α) : eqD (.lst (l.map fun _ => D.int 1)) (.lst []) = some (decide (l = [])) := eq_of (eq_sp (ones_sp l) (ones_sp ([] : List α))) ⟨fun h => by
  have := D.lst.inj h
  exact List.map_eq_nil_iff.mp this, fun h => by rw [h]; rfl⟩
theorem neL1 {α : Type} (l : List α) : cmpD .NotEq (.lst (l.map fun _ => D.int 1)) (.lst []) = some (!decide (l = [])) := by
  show (eqD _ _).map _ = _
  rw [eqL1]; rfl
theorem eqqL1 {α : Type} (l : List α) : cmpD .Eq (.lst (l.map fun _ => D.int 1)) (.lst []) = some (decide (l = [])) := eqL1 l
structure Nu (d : D) (b : Bool) : Prop where
  p : ∀ lv m, callF W0 (lv + 2) 2 [.dat d] m = .ok (.vl (.dat (.bl b))) m
  l : ∀ lv m, callF W0 (lv + 2) 39 [.dat d] m = .ok (.vl (.dat (.bl b))) m
theorem ln_ints (lv : Nat) (m : Sto) (a b : Int) : evC W0 (callF W0 (lv + 1)) (.nm 1) .seq [(.var 0)] [(.orl [(.nt (.val (.isi (.var 1) "int"))), (.val (.isi (.var 1) "bool"))])] (.cst (.int 1)) [some (.dat (.tup [.int a, .int b])), none] m = .ok [] m := by
  have := bind_evF (β := List D) (W := W0) (C := callF W0 (lv + 1)) (s := [some (.dat (.tup [.int a, .int b])), none]) (m := m) (m1 := m) (vs := [.dat (.tup [.int a, .int b])]) (ds := [.tup [.int a, .int b]]) (enc := fun i : Int => D.int i) (tg := .nm 1) (ik := .seq) (src := [(.var 0)]) (ifs := [(.orl [(.nt (.val (.isi (.var 1) "int"))), (.val (.isi (.var 1) "bool"))])]) (elt := .cst (.int 1)) (z := .ok [] m) (fun _ => D.int 1) (fun _ => false) [a, b] rfl rfl rfl (by simp) (fun x hx => by
    unfold turnC
    simp [tgD, x_nil, x_cons, x_set, x_setT, x_par, x_ife, x_ret, x_retf, n_lst, n_call, x_newl, x_exp, bi_ok, bi_bad, of_some, lk_dat, lks_nil, lks_cons, do_nil, do_cons, op_some, ob_some, b_add, b_sub, c_lt, c_le, c_gt, c_ge, c_eqS, c_neS, c_eqI, c_neI, c_eqB, c_neB, c_eqT, c_neT, c_eqL, c_neL, c_isB, c_isntB, c_is, c_isnt, eq_int, eq_bl, eq_pair, t_bl, t_int, t_lst, t_tup, l_tup, l_lst, l_scr, l_abs, l_int, l_intB, l_max, l_min, l_tt, l_tl, l_all, l_any, l_repr, s_tup, s_lst, s_scr, i_tt, i_ii, i_ib, i_it, ix0, ix1, ix2, v_var, v_cst, v_glo, v_tup, v_lst, v_lsts, d_nil, d_star, d_one, l_max1, l_min1, l_sum, v_bin, v_neg, v_nt, v_cmp, v_chain, v_and, v_or, v_ite, v_sub, v_rev, v_call, v_blt, v_isi, v_comp, evs, evAnd, evOr, evIfs, evT, evTAnd, evTOr, parS, bi_asc, tgD, tgDs, wipeS, slotsOf, slotsOfs, szk, wipeS, slotsOf, evIfs, noX]) (f := fun l m => .ok l m) rfl
  have e : ∀ r : R (List D), (r.bind fun l m => .ok l m) = r := fun r => by cases r <;> rfl
  rw [e] at this
  exact this
theorem nu_fr {q : Rat} (h : Bd 4400 q) : Nu (fr q) true := by
  refine ⟨fun lv m => is_number_ok lv m q (h.dn (by decide)), fun lv m => ?_⟩
  rw [c_law_is_number]
  refine ru_dat rfl rfl rfl rfl ?_
  have hd := q.den_pos
  have c := law_fr_ok lv m q.num q.den (by omega) (h.denI.mono (by decide)) (h.num.mono (by decide))
  rw [Rat.num_divInt_den] at c
  have ei := ln_ints lv m q.num q.den
  have h1 : ¬ (q.den : Int) < 1 := by omega
  have en : eqD (.lst []) (.lst []) = some true := eqL1 ([] : List Nat)
  have eq : eqD (fr q) (fr q) = some true := by rw [eq_fr]; simp
  unfold fr at c eq ⊢
  simp [d_law_is_number, b_law_is_number, x_nil, x_cons, x_set, x_setT, x_par, x_ife, x_ret, x_retf, n_lst, n_call, x_newl, x_exp, bi_ok, bi_bad, of_some, lk_dat, lks_nil, lks_cons, do_nil, do_cons, op_some, ob_some, b_add, b_sub, c_lt, c_le, c_gt, c_ge, c_eqS, c_neS, c_eqI, c_neI, c_eqB, c_neB, c_eqT, c_neT, c_eqL, c_neL, c_isB, c_isntB, c_is, c_isnt, eq_int, eq_bl, eq_pair, t_bl, t_int, t_lst, t_tup, l_tup, l_lst, l_scr, l_abs, l_int, l_intB, l_max, l_min, l_tt, l_tl, l_all, l_any, l_repr, s_tup, s_lst, s_scr, i_tt, i_ii, i_ib, i_it, ix0, ix1, ix2, v_var, v_cst, v_glo, v_tup, v_lst, v_lsts, d_nil, d_star, d_one, l_max1, l_min1, l_sum, v_bin, v_neg, v_nt, v_cmp, v_chain, v_and, v_or, v_ite, v_sub, v_rev, v_call, v_blt, v_isi, v_comp, evs, evAnd, evOr, evIfs, evT, evTAnd, evTOr, parS, bi_asc, tgD, tgDs, wipeS, slotsOf, slotsOfs, szk, ei, en, h1, c, eq]
theorem nu_22 : Nu (.tup [.int 2, .int 2]) false := by
  refine ⟨fun lv m => ?_, fun lv m => ?_⟩
  · rw [c_is_number]
    refine ru_dat rfl rfl rfl rfl ?_
    have hc := isnum_comp lv m (.tup [.int 2, .int 2]) [.int 2, .int 2] (by simp) rfl rfl
    have hg := common_divisor_ok lv m 2 2 (by unfold Sm; decide)
    have e2 : Int.gcd 2 2 = 2 := by decide
    rw [e2] at hg
    have hg : callF W0 (lv + 1) 1 [.dat (.int 2), .dat (.int 2)] m = .ok (.vl (.dat (.int 2))) m := hg
    simp [d_is_number, b_is_number, x_nil, x_cons, x_set, x_setT, x_par, x_ife, x_ret, x_retf, n_lst, n_call, x_newl, x_exp, bi_ok, bi_bad, of_some, lk_dat, lks_nil, lks_cons, do_nil, do_cons, op_some, ob_some, b_add, b_sub, c_lt, c_le, c_gt, c_ge, c_eqS, c_neS, c_eqI, c_neI, c_eqB, c_neB, c_eqT, c_neT, c_eqL, c_neL, c_isB, c_isntB, c_is, c_isnt, eq_int, eq_bl, eq_pair, t_bl, t_int, t_lst, t_tup, l_tup, l_lst, l_scr, l_abs, l_int, l_intB, l_max, l_min, l_tt, l_tl, l_all, l_any, l_repr, s_tup, s_lst, s_scr, i_tt, i_ii, i_ib, i_it, ix0, ix1, ix2, v_var, v_cst, v_glo, v_tup, v_lst, v_lsts, d_nil, d_star, d_one, l_max1, l_min1, l_sum, v_bin, v_neg, v_nt, v_cmp, v_chain, v_and, v_or, v_ite, v_sub, v_rev, v_call, v_blt, v_isi, v_comp, evs, evAnd, evOr, evIfs, evT, evTAnd, evTOr, parS, bi_asc, tgD, tgDs, wipeS, slotsOf, slotsOfs, szk, hc, hg, allD]
  · rw [c_law_is_number]
    refine ru_dat rfl rfl rfl rfl ?_
    have c : callF W0 (lv + 1) 29 [.dat (.int 2), .dat (.int 2)] m = .ok (.vl (.dat (.tup [.int 1, .int 1]))) m := by
      have c := law_fr_ok lv m 2 2 (by decide) (by unfold Sm; decide) (by unfold Sm; decide)
      have e : fr (Rat.divInt 2 2) = .tup [.int 1, .int 1] := by
        have : Rat.divInt 2 2 = 1 := by decide +kernel
        rw [this]; rfl
      rw [e] at c
      exact c
    have ei := ln_ints lv m 2 2
    have en : eqD (.lst []) (.lst []) = some true := eqL1 ([] : List Nat)
    simp [d_law_is_number, b_law_is_number, x_nil, x_cons, x_set, x_setT, x_par, x_ife, x_ret, x_retf, n_lst, n_call, x_newl, x_exp, bi_ok, bi_bad, of_some, lk_dat, lks_nil, lks_cons, do_nil, do_cons, op_some, ob_some, b_add, b_sub, c_lt, c_le, c_gt, c_ge, c_eqS, c_neS, c_eqI, c_neI, c_eqB, c_neB, c_eqT, c_neT, c_eqL, c_neL, c_isB, c_isntB, c_is, c_isnt, eq_int, eq_bl, eq_pair, t_bl, t_int, t_lst, t_tup, l_tup, l_lst, l_scr, l_abs, l_int, l_intB, l_max, l_min, l_tt, l_tl, l_all, l_any, l_repr, s_tup, s_lst, s_scr, i_tt, i_ii, i_ib, i_it, ix0, ix1, ix2, v_var, v_cst, v_glo, v_tup, v_lst, v_lsts, d_nil, d_star, d_one, l_max1, l_min1, l_sum, v_bin, v_neg, v_nt, v_cmp, v_chain, v_and, v_or, v_ite, v_sub, v_rev, v_call, v_blt, v_isi, v_comp, evs, evAnd, evOr, evIfs, evT, evTAnd, evTOr, parS, bi_asc, tgD, tgDs, wipeS, slotsOf, slotsOfs, szk, ei, en, c]
theorem nu_true : Nu (.bl true) false := by
  have e : isiD (.bl true) "tuple" = some false := by simp [isiD, tyName]
  refine ⟨fun lv m => ?_, fun lv m => ?_⟩
  · rw [c_is_number]
    refine ru_dat rfl rfl rfl rfl ?_
    simp [d_is_number, b_is_number, x_nil, x_cons, x_set, x_setT, x_par, x_ife, x_ret, x_retf, n_lst, n_call, x_newl, x_exp, bi_ok, bi_bad, of_some, lk_dat, lks_nil, lks_cons, do_nil, do_cons, op_some, ob_some, b_add, b_sub, c_lt, c_le, c_gt, c_ge, c_eqS, c_neS, c_eqI, c_neI, c_eqB, c_neB, c_eqT, c_neT, c_eqL, c_neL, c_isB, c_isntB, c_is, c_isnt, eq_int, eq_bl, eq_pair, t_bl, t_int, t_lst, t_tup, l_tup, l_lst, l_scr, l_abs, l_int, l_intB, l_max, l_min, l_tt, l_tl, l_all, l_any, l_repr, s_tup, s_lst, s_scr, i_tt, i_ii, i_ib, i_it, ix0, ix1, ix2, v_var, v_cst, v_glo, v_tup, v_lst, v_lsts, d_nil, d_star, d_one, l_max1, l_min1, l_sum, v_bin, v_neg, v_nt, v_cmp, v_chain, v_and, v_or, v_ite, v_sub, v_rev, v_call, v_blt, v_isi, v_comp, evs, evAnd, evOr, evIfs, evT, evTAnd, evTOr, parS, bi_asc, tgD, tgDs, wipeS, slotsOf, slotsOfs, szk, e]
  · rw [c_law_is_number]
    refine ru_dat rfl rfl rfl rfl ?_
    simp [d_law_is_number, b_law_is_number, x_nil, x_cons, x_set, x_setT, x_par, x_ife, x_ret, x_retf, n_lst, n_call, x_newl, x_exp, bi_ok, bi_bad, of_some, lk_dat, lks_nil, lks_cons, do_nil, do_cons, op_some, ob_some, b_add, b_sub, c_lt, c_le, c_gt, c_ge, c_eqS, c_neS, c_eqI, c_neI, c_eqB, c_neB, c_eqT, c_neT, c_eqL, c_neL, c_isB, c_isntB, c_is, c_isnt, eq_int, eq_bl, eq_pair, t_bl, t_int, t_lst, t_tup, l_tup, l_lst, l_scr, l_abs, l_int, l_intB, l_max, l_min, l_tt, l_tl, l_all, l_any, l_repr, s_tup, s_lst, s_scr, i_tt, i_ii, i_ib, i_it, ix0, ix1, ix2, v_var, v_cst, v_glo, v_tup, v_lst, v_lsts, d_nil, d_star, d_one, l_max1, l_min1, l_sum, v_bin, v_neg, v_nt, v_cmp, v_chain, v_and, v_or, v_ite, v_sub, v_rev, v_call, v_blt, v_isi, v_comp, evs, evAnd, evOr, evIfs, evT, evTAnd, evTOr, parS, bi_asc, tgD, tgDs, wipeS, slotsOf, slotsOfs, szk, e]
structure It (d : D) (b : Bool) : Prop where
  s : ∀ lv m, callF W0 (lv + 4) 18 [.dat d] m = .ok (.vl (.dat (.bl b))) m
  l : ∀ lv m, callF W0 (lv + 3) 40 [.dat d] m = .ok (.vl (.dat (.bl b))) m
theorem short_false {d : D} (h : ∀ lv m, callF W0 (lv + 3) 10 [.dat d] m = .ok (.vl (.dat (.bl false))) m) (lv : Nat) (m : Sto) : callF W0 (lv + 4) 18 [.dat d] m = .ok (.vl (.dat (.bl false))) m := by
  rw [c_is_short_word]
  refine ru_dat rfl rfl rfl rfl ?_
  simp [d_is_short_word, b_is_short_word, x_nil, x_cons, x_set, x_setT, x_par, x_ife, x_ret, x_retf, n_lst, n_call, x_newl, x_exp, bi_ok, bi_bad, of_some, lk_dat, lks_nil, lks_cons, do_nil, do_cons, op_some, ob_some, b_add, b_sub, c_lt, c_le, c_gt, c_ge, c_eqS, c_neS, c_eqI, c_neI, c_eqB, c_neB, c_eqT, c_neT, c_eqL, c_neL, c_isB, c_isntB, c_is, c_isnt, eq_int, eq_bl, eq_pair, t_bl, t_int, t_lst, t_tup, l_tup, l_lst, l_scr, l_abs, l_int, l_intB, l_max, l_min, l_tt, l_tl, l_all, l_any, l_repr, s_tup, s_lst, s_scr, i_tt, i_ii, i_ib, i_it, ix0, ix1, ix2, v_var, v_cst, v_glo, v_tup, v_lst, v_lsts, d_nil, d_star, d_one, l_max1, l_min1, l_sum, v_bin, v_neg, v_nt, v_cmp, v_chain, v_and, v_or, v_ite, v_sub, v_rev, v_call, v_blt, v_isi, v_comp, evs, evAnd, evOr, evIfs, evT, evTAnd, evTOr, parS, bi_asc, tgD, tgDs, wipeS, slotsOf, slotsOfs, szk, h]
theorem it_not {d : D} (e : isiD d "tuple" = some false) : It d false := by
  refine ⟨fun lv m => short_false (fun lv m => ?_) lv m, fun lv m => ?_⟩
  · rw [c_is_plain_word]
    refine ru_dat rfl rfl rfl rfl ?_
    simp [d_is_plain_word, b_is_plain_word, x_nil, x_cons, x_set, x_setT, x_par, x_ife, x_ret, x_retf, n_lst, n_call, x_newl, x_exp, bi_ok, bi_bad, of_some, lk_dat, lks_nil, lks_cons, do_nil, do_cons, op_some, ob_some, b_add, b_sub, c_lt, c_le, c_gt, c_ge, c_eqS, c_neS, c_eqI, c_neI, c_eqB, c_neB, c_eqT, c_neT, c_eqL, c_neL, c_isB, c_isntB, c_is, c_isnt, eq_int, eq_bl, eq_pair, t_bl, t_int, t_lst, t_tup, l_tup, l_lst, l_scr, l_abs, l_int, l_intB, l_max, l_min, l_tt, l_tl, l_all, l_any, l_repr, s_tup, s_lst, s_scr, i_tt, i_ii, i_ib, i_it, ix0, ix1, ix2, v_var, v_cst, v_glo, v_tup, v_lst, v_lsts, d_nil, d_star, d_one, l_max1, l_min1, l_sum, v_bin, v_neg, v_nt, v_cmp, v_chain, v_and, v_or, v_ite, v_sub, v_rev, v_call, v_blt, v_isi, v_comp, evs, evAnd, evOr, evIfs, evT, evTAnd, evTOr, parS, bi_asc, tgD, tgDs, wipeS, slotsOf, slotsOfs, szk, e]
  · rw [c_law_is_word]
    refine ru_dat rfl rfl rfl rfl ?_
    simp [d_law_is_word, b_law_is_word, x_nil, x_cons, x_set, x_setT, x_par, x_ife, x_ret, x_retf, n_lst, n_call, x_newl, x_exp, bi_ok, bi_bad, of_some, lk_dat, lks_nil, lks_cons, do_nil, do_cons, op_some, ob_some, b_add, b_sub, c_lt, c_le, c_gt, c_ge, c_eqS, c_neS, c_eqI, c_neI, c_eqB, c_neB, c_eqT, c_neT, c_eqL, c_neL, c_isB, c_isntB, c_is, c_isnt, eq_int, eq_bl, eq_pair, t_bl, t_int, t_lst, t_tup, l_tup, l_lst, l_scr, l_abs, l_int, l_intB, l_max, l_min, l_tt, l_tl, l_all, l_any, l_repr, s_tup, s_lst, s_scr, i_tt, i_ii, i_ib, i_it, ix0, ix1, ix2, v_var, v_cst, v_glo, v_tup, v_lst, v_lsts, d_nil, d_star, d_one, l_max1, l_min1, l_sum, v_bin, v_neg, v_nt, v_cmp, v_chain, v_and, v_or, v_ite, v_sub, v_rev, v_call, v_blt, v_isi, v_comp, evs, evAnd, evOr, evIfs, evT, evTAnd, evTOr, parS, bi_asc, tgD, tgDs, wipeS, slotsOf, slotsOfs, szk, e]
theorem it_bad {d : D} (h : Nu d false) : It (.tup [d]) false := by
  refine ⟨fun lv m => short_false (fun lv m => ?_) lv m, fun lv m => ?_⟩
  · rw [c_is_plain_word]
    refine ru_dat rfl rfl rfl rfl ?_
    simp [d_is_plain_word, b_is_plain_word, x_nil, x_cons, x_set, x_setT, x_par, x_ife, x_ret, x_retf, n_lst, n_call, x_newl, x_exp, bi_ok, bi_bad, of_some, lk_dat, lks_nil, lks_cons, do_nil, do_cons, op_some, ob_some, b_add, b_sub, c_lt, c_le, c_gt, c_ge, c_eqS, c_neS, c_eqI, c_neI, c_eqB, c_neB, c_eqT, c_neT, c_eqL, c_neL, c_isB, c_isntB, c_is, c_isnt, eq_int, eq_bl, eq_pair, t_bl, t_int, t_lst, t_tup, l_tup, l_lst, l_scr, l_abs, l_int, l_intB, l_max, l_min, l_tt, l_tl, l_all, l_any, l_repr, s_tup, s_lst, s_scr, i_tt, i_ii, i_ib, i_it, ix0, ix1, ix2, v_var, v_cst, v_glo, v_tup, v_lst, v_lsts, d_nil, d_star, d_one, l_max1, l_min1, l_sum, v_bin, v_neg, v_nt, v_cmp, v_chain, v_and, v_or, v_ite, v_sub, v_rev, v_call, v_blt, v_isi, v_comp, evs, evAnd, evOr, evIfs, evT, evTAnd, evTOr, parS, bi_asc, tgD, tgDs, wipeS, slotsOf, slotsOfs, szk]
    refine bind_evC (enc := fun x : D => x) (fun _ => D.bl false) [d] rfl rfl rfl (by simp) (fun x hx => ?_) ?_
    · rw [List.mem_singleton] at hx
      subst hx
      refine turn0 rfl ?_
      simp [x_nil, x_cons, x_set, x_setT, x_par, x_ife, x_ret, x_retf, n_lst, n_call, x_newl, x_exp, bi_ok, bi_bad, of_some, lk_dat, lks_nil, lks_cons, do_nil, do_cons, op_some, ob_some, b_add, b_sub, c_lt, c_le, c_gt, c_ge, c_eqS, c_neS, c_eqI, c_neI, c_eqB, c_neB, c_eqT, c_neT, c_eqL, c_neL, c_isB, c_isntB, c_is, c_isnt, eq_int, eq_bl, eq_pair, t_bl, t_int, t_lst, t_tup, l_tup, l_lst, l_scr, l_abs, l_int, l_intB, l_max, l_min, l_tt, l_tl, l_all, l_any, l_repr, s_tup, s_lst, s_scr, i_tt, i_ii, i_ib, i_it, ix0, ix1, ix2, v_var, v_cst, v_glo, v_tup, v_lst, v_lsts, d_nil, d_star, d_one, l_max1, l_min1, l_sum, v_bin, v_neg, v_nt, v_cmp, v_chain, v_and, v_or, v_ite, v_sub, v_rev, v_call, v_blt, v_isi, v_comp, evs, evAnd, evOr, evIfs, evT, evTAnd, evTOr, parS, bi_asc, tgD, tgDs, wipeS, slotsOf, slotsOfs, szk, h.p]
    · simp [x_nil, x_cons, x_set, x_setT, x_par, x_ife, x_ret, x_retf, n_lst, n_call, x_newl, x_exp, bi_ok, bi_bad, of_some, lk_dat, lks_nil, lks_cons, do_nil, do_cons, op_some, ob_some, b_add, b_sub, c_lt, c_le, c_gt, c_ge, c_eqS, c_neS, c_eqI, c_neI, c_eqB, c_neB, c_eqT, c_neT, c_eqL, c_neL, c_isB, c_isntB, c_is, c_isnt, eq_int, eq_bl, eq_pair, t_bl, t_int, t_lst, t_tup, l_tup, l_lst, l_scr, l_abs, l_int, l_intB, l_max, l_min, l_tt, l_tl, l_all, l_any, l_repr, s_tup, s_lst, s_scr, i_tt, i_ii, i_ib, i_it, ix0, ix1, ix2, v_var, v_cst, v_glo, v_tup, v_lst, v_lsts, d_nil, d_star, d_one, l_max1, l_min1, l_sum, v_bin, v_neg, v_nt, v_cmp, v_chain, v_and, v_or, v_ite, v_sub, v_rev, v_call, v_blt, v_isi, v_comp, evs, evAnd, evOr, evIfs, evT, evTAnd, evTOr, parS, bi_asc, tgD, tgDs, wipeS, slotsOf, slotsOfs, szk, allD]
  · rw [c_law_is_word]
    refine ru_dat rfl rfl rfl rfl ?_
    simp [d_law_is_word, b_law_is_word, x_nil, x_cons, x_set, x_setT, x_par, x_ife, x_ret, x_retf, n_lst, n_call, x_newl, x_exp, bi_ok, bi_bad, of_some, lk_dat, lks_nil, lks_cons, do_nil, do_cons, op_some, ob_some, b_add, b_sub, c_lt, c_le, c_gt, c_ge, c_eqS, c_neS, c_eqI, c_neI, c_eqB, c_neB, c_eqT, c_neT, c_eqL, c_neL, c_isB, c_isntB, c_is, c_isnt, eq_int, eq_bl, eq_pair, t_bl, t_int, t_lst, t_tup, l_tup, l_lst, l_scr, l_abs, l_int, l_intB, l_max, l_min, l_tt, l_tl, l_all, l_any, l_repr, s_tup, s_lst, s_scr, i_tt, i_ii, i_ib, i_it, ix0, ix1, ix2, v_var, v_cst, v_glo, v_tup, v_lst, v_lsts, d_nil, d_star, d_one, l_max1, l_min1, l_sum, v_bin, v_neg, v_nt, v_cmp, v_chain, v_and, v_or, v_ite, v_sub, v_rev, v_call, v_blt, v_isi, v_comp, evs, evAnd, evOr, evIfs, evT, evTAnd, evTOr, parS, bi_asc, tgD, tgDs, wipeS, slotsOf, slotsOfs, szk]
    refine bind_evF (enc := fun x : D => x) (fun _ => D.int 1) (fun _ => true) [d] rfl rfl rfl (by simp) (fun x hx => ?_) ?_
    · rw [List.mem_singleton] at hx
      subst hx
      unfold turnC
      simp [tgD, x_nil, x_cons, x_set, x_setT, x_par, x_ife, x_ret, x_retf, n_lst, n_call, x_newl, x_exp, bi_ok, bi_bad, of_some, lk_dat, lks_nil, lks_cons, do_nil, do_cons, op_some, ob_some, b_add, b_sub, c_lt, c_le, c_gt, c_ge, c_eqS, c_neS, c_eqI, c_neI, c_eqB, c_neB, c_eqT, c_neT, c_eqL, c_neL, c_isB, c_isntB, c_is, c_isnt, eq_int, eq_bl, eq_pair, t_bl, t_int, t_lst, t_tup, l_tup, l_lst, l_scr, l_abs, l_int, l_intB, l_max, l_min, l_tt, l_tl, l_all, l_any, l_repr, s_tup, s_lst, s_scr, i_tt, i_ii, i_ib, i_it, ix0, ix1, ix2, v_var, v_cst, v_glo, v_tup, v_lst, v_lsts, d_nil, d_star, d_one, l_max1, l_min1, l_sum, v_bin, v_neg, v_nt, v_cmp, v_chain, v_and, v_or, v_ite, v_sub, v_rev, v_call, v_blt, v_isi, v_comp, evs, evAnd, evOr, evIfs, evT, evTAnd, evTOr, parS, bi_asc, tgD, tgDs, wipeS, slotsOf, slotsOfs, szk, wipeS, slotsOf, evIfs, noX, h.l]
    · have en : eqD (.lst [.int 1]) (.lst []) = some false := eqL1 [()]
      simp [x_nil, x_cons, x_set, x_setT, x_par, x_ife, x_ret, x_retf, n_lst, n_call, x_newl, x_exp, bi_ok, bi_bad, of_some, lk_dat, lks_nil, lks_cons, do_nil, do_cons, op_some, ob_some, b_add, b_sub, c_lt, c_le, c_gt, c_ge, c_eqS, c_neS, c_eqI, c_neI, c_eqB, c_neB, c_eqT, c_neT, c_eqL, c_neL, c_isB, c_isntB, c_is, c_isnt, eq_int, eq_bl, eq_pair, t_bl, t_int, t_lst, t_tup, l_tup, l_lst, l_scr, l_abs, l_int, l_intB, l_max, l_min, l_tt, l_tl, l_all, l_any, l_repr, s_tup, s_lst, s_scr, i_tt, i_ii, i_ib, i_it, ix0, ix1, ix2, v_var, v_cst, v_glo, v_tup, v_lst, v_lsts, d_nil, d_star, d_one, l_max1, l_min1, l_sum, v_bin, v_neg, v_nt, v_cmp, v_chain, v_and, v_or, v_ite, v_sub, v_rev, v_call, v_blt, v_isi, v_comp, evs, evAnd, evOr, evIfs, evT, evTAnd, evTOr, parS, bi_asc, tgD, tgDs, wipeS, slotsOf, slotsOfs, szk, en]
theorem lw_walk (lv : Nat) (m : Sto) (p : List Rat) (hp : ∀ x ∈ p, Bd 4400 x) (hl : p.length ≤ 1000) : evC W0 (callF W0 (lv + 2)) (.nm 1) .seq [(.var 0)] [(.nt (.val (.call 39 [(.var 1)])))] (.cst (.int 1)) [some (.dat (wd p)), none] m = .ok [] m := by
  have := bind_evF (β := List D) (W := W0) (C := callF W0 (lv + 2)) (s := [some (.dat (wd p)), none]) (m := m) (m1 := m) (vs := [.dat (wd p)]) (ds := [wd p]) (enc := fr) (tg := .nm 1) (ik := .seq) (src := [(.var 0)]) (ifs := [(.nt (.val (.call 39 [(.var 1)])))]) (elt := .cst (.int 1)) (z := .ok [] m) (fun _ => D.int 1) (fun _ => false) p rfl rfl rfl hl (fun x hx => by
    unfold turnC
    simp [tgD, x_nil, x_cons, x_set, x_setT, x_par, x_ife, x_ret, x_retf, n_lst, n_call, x_newl, x_exp, bi_ok, bi_bad, of_some, lk_dat, lks_nil, lks_cons, do_nil, do_cons, op_some, ob_some, b_add, b_sub, c_lt, c_le, c_gt, c_ge, c_eqS, c_neS, c_eqI, c_neI, c_eqB, c_neB, c_eqT, c_neT, c_eqL, c_neL, c_isB, c_isntB, c_is, c_isnt, eq_int, eq_bl, eq_pair, t_bl, t_int, t_lst, t_tup, l_tup, l_lst, l_scr, l_abs, l_int, l_intB, l_max, l_min, l_tt, l_tl, l_all, l_any, l_repr, s_tup, s_lst, s_scr, i_tt, i_ii, i_ib, i_it, ix0, ix1, ix2, v_var, v_cst, v_glo, v_tup, v_lst, v_lsts, d_nil, d_star, d_one, l_max1, l_min1, l_sum, v_bin, v_neg, v_nt, v_cmp, v_chain, v_and, v_or, v_ite, v_sub, v_rev, v_call, v_blt, v_isi, v_comp, evs, evAnd, evOr, evIfs, evT, evTAnd, evTOr, parS, bi_asc, tgD, tgDs, wipeS, slotsOf, slotsOfs, szk, wipeS, slotsOf, evIfs, noX, (nu_fr (hp x hx)).l]) (f := fun l m => .ok l m) (by simp)
  have e : ∀ r : R (List D), (r.bind fun l m => .ok l m) = r := fun r => by cases r <;> rfl
  rw [e] at this
  exact this
theorem it_word {k l : Nat} {p : List Rat} (hp : Cd k l p) (hk : k ≤ 4400) (hl : l ≤ 201) : It (wd p) true := by
  refine ⟨fun lv m => shortC_ok lv k l m p hp hk hl, fun lv m => ?_⟩
  rw [c_law_is_word]
  refine ru_dat rfl rfl rfl rfl ?_
  have ew := lw_walk lv m p (cd_bd hp hk) (by have := hp.ln; omega)
  have en : eqD (.lst []) (.lst []) = some true := eqL1 ([] : List Nat)
  by_cases p0 : p = []
  · subst p0
    simp [d_law_is_word, b_law_is_word, x_nil, x_cons, x_set, x_setT, x_par, x_ife, x_ret, x_retf, n_lst, n_call, x_newl, x_exp, bi_ok, bi_bad, of_some, lk_dat, lks_nil, lks_cons, do_nil, do_cons, op_some, ob_some, b_add, b_sub, c_lt, c_le, c_gt, c_ge, c_eqS, c_neS, c_eqI, c_neI, c_eqB, c_neB, c_eqT, c_neT, c_eqL, c_neL, c_isB, c_isntB, c_is, c_isnt, eq_int, eq_bl, eq_pair, t_bl, t_int, t_lst, t_tup, l_tup, l_lst, l_scr, l_abs, l_int, l_intB, l_max, l_min, l_tt, l_tl, l_all, l_any, l_repr, s_tup, s_lst, s_scr, i_tt, i_ii, i_ib, i_it, ix0, ix1, ix2, v_var, v_cst, v_glo, v_tup, v_lst, v_lsts, d_nil, d_star, d_one, l_max1, l_min1, l_sum, v_bin, v_neg, v_nt, v_cmp, v_chain, v_and, v_or, v_ite, v_sub, v_rev, v_call, v_blt, v_isi, v_comp, evs, evAnd, evOr, evIfs, evT, evTAnd, evTOr, parS, bi_asc, tgD, tgDs, wipeS, slotsOf, slotsOfs, szk, i_wd, ew, en, eqn]
  · have hn := lc_ne hp.tr p0
    simp [d_law_is_word, b_law_is_word, x_nil, x_cons, x_set, x_setT, x_par, x_ife, x_ret, x_retf, n_lst, n_call, x_newl, x_exp, bi_ok, bi_bad, of_some, lk_dat, lks_nil, lks_cons, do_nil, do_cons, op_some, ob_some, b_add, b_sub, c_lt, c_le, c_gt, c_ge, c_eqS, c_neS, c_eqI, c_neI, c_eqB, c_neB, c_eqT, c_neT, c_eqL, c_neL, c_isB, c_isntB, c_is, c_isnt, eq_int, eq_bl, eq_pair, t_bl, t_int, t_lst, t_tup, l_tup, l_lst, l_scr, l_abs, l_int, l_intB, l_max, l_min, l_tt, l_tl, l_all, l_any, l_repr, s_tup, s_lst, s_scr, i_tt, i_ii, i_ib, i_it, ix0, ix1, ix2, v_var, v_cst, v_glo, v_tup, v_lst, v_lsts, d_nil, d_star, d_one, l_max1, l_min1, l_sum, v_bin, v_neg, v_nt, v_cmp, v_chain, v_and, v_or, v_ite, v_sub, v_rev, v_call, v_blt, v_isi, v_comp, evs, evAnd, evOr, evIfs, evT, evTAnd, evTOr, parS, bi_asc, tgD, tgDs, wipeS, slotsOf, slotsOfs, szk, i_wd, ew, en, eqn, p0, s_lc p0, s_fr0, num0, hn]
theorem it_late {k l : Nat} {p : List Rat} (hp : Cd k l p) (hk : k ≤ 4400) (hl : l ≤ 201) (h1 : 1 ≤ k) : It (wd (p ++ [0])) false := by
  have hb : ∀ x ∈ p ++ [0], Bd 4400 x := fun x hx => by
    rcases List.mem_append.mp hx with h | h
    · exact cd_bd hp hk x h
    · rw [List.mem_singleton] at h
      rw [h]
      exact .zero _ (by decide)
  have hlen : (p ++ [(0 : Rat)]).length ≤ 1000 := by have := hp.ln; simp; omega
  have hne : p ++ [(0 : Rat)] ≠ [] := by simp
  have hla : (p ++ [(0 : Rat)]).getLast hne = 0 := by simp
  refine ⟨fun lv m => short_false (fun lv m => ?_) lv m, fun lv m => ?_⟩
  · rw [c_is_plain_word]
    refine ru_dat rfl rfl rfl rfl ?_
    simp [d_is_plain_word, b_is_plain_word, x_nil, x_cons, x_set, x_setT, x_par, x_ife, x_ret, x_retf, n_lst, n_call, x_newl, x_exp, bi_ok, bi_bad, of_some, lk_dat, lks_nil, lks_cons, do_nil, do_cons, op_some, ob_some, b_add, b_sub, c_lt, c_le, c_gt, c_ge, c_eqS, c_neS, c_eqI, c_neI, c_eqB, c_neB, c_eqT, c_neT, c_eqL, c_neL, c_isB, c_isntB, c_is, c_isnt, eq_int, eq_bl, eq_pair, t_bl, t_int, t_lst, t_tup, l_tup, l_lst, l_scr, l_abs, l_int, l_intB, l_max, l_min, l_tt, l_tl, l_all, l_any, l_repr, s_tup, s_lst, s_scr, i_tt, i_ii, i_ib, i_it, ix0, ix1, ix2, v_var, v_cst, v_glo, v_tup, v_lst, v_lsts, d_nil, d_star, d_one, l_max1, l_min1, l_sum, v_bin, v_neg, v_nt, v_cmp, v_chain, v_and, v_or, v_ite, v_sub, v_rev, v_call, v_blt, v_isi, v_comp, evs, evAnd, evOr, evIfs, evT, evTAnd, evTOr, parS, bi_asc, tgD, tgDs, wipeS, slotsOf, slotsOfs, szk, i_wd]
    refine bind_evC (enc := fr) (fun _ => D.bl true) (p ++ [0]) rfl rfl rfl hlen (fun x hx => ?_) ?_
    · refine turn0 rfl ?_
      simp [x_nil, x_cons, x_set, x_setT, x_par, x_ife, x_ret, x_retf, n_lst, n_call, x_newl, x_exp, bi_ok, bi_bad, of_some, lk_dat, lks_nil, lks_cons, do_nil, do_cons, op_some, ob_some, b_add, b_sub, c_lt, c_le, c_gt, c_ge, c_eqS, c_neS, c_eqI, c_neI, c_eqB, c_neB, c_eqT, c_neT, c_eqL, c_neL, c_isB, c_isntB, c_is, c_isnt, eq_int, eq_bl, eq_pair, t_bl, t_int, t_lst, t_tup, l_tup, l_lst, l_scr, l_abs, l_int, l_intB, l_max, l_min, l_tt, l_tl, l_all, l_any, l_repr, s_tup, s_lst, s_scr, i_tt, i_ii, i_ib, i_it, ix0, ix1, ix2, v_var, v_cst, v_glo, v_tup, v_lst, v_lsts, d_nil, d_star, d_one, l_max1, l_min1, l_sum, v_bin, v_neg, v_nt, v_cmp, v_chain, v_and, v_or, v_ite, v_sub, v_rev, v_call, v_blt, v_isi, v_comp, evs, evAnd, evOr, evIfs, evT, evTAnd, evTOr, parS, bi_asc, tgD, tgDs, wipeS, slotsOf, slotsOfs, szk, (nu_fr (hb x hx)).p]
    · have ha : allD ((p ++ [(0 : Rat)]).map fun _ => D.bl true) = some true := by rw [allD_map (fun _ => true)]; simp
      simp only [x_nil, x_cons, x_set, x_setT, x_par, x_ife, x_ret, x_retf, n_lst, n_call, x_newl, x_exp, bi_ok, bi_bad, of_some, lk_dat, lks_nil, lks_cons, do_nil, do_cons, op_some, ob_some, b_add, b_sub, c_lt, c_le, c_gt, c_ge, c_eqS, c_neS, c_eqI, c_neI, c_eqB, c_neB, c_eqT, c_neT, c_eqL, c_neL, c_isB, c_isntB, c_is, c_isnt, eq_int, eq_bl, eq_pair, t_bl, t_int, t_lst, t_tup, l_tup, l_lst, l_scr, l_abs, l_int, l_intB, l_max, l_min, l_tt, l_tl, l_all, l_any, l_repr, s_tup, s_lst, s_scr, i_tt, i_ii, i_ib, i_it, ix0, ix1, ix2, v_var, v_cst, v_glo, v_tup, v_lst, v_lsts, d_nil, d_star, d_one, l_max1, l_min1, l_sum, v_bin, v_neg, v_nt, v_cmp, v_chain, v_and, v_or, v_ite, v_sub, v_rev, v_call, v_blt, v_isi, v_comp, evs, evAnd, evOr, evIfs, evT, evTAnd, evTOr, parS, bi_asc, tgD, tgDs, wipeS, slotsOf, slotsOfs, szk, ha]
      simp [x_nil, x_cons, x_set, x_setT, x_par, x_ife, x_ret, x_retf, n_lst, n_call, x_newl, x_exp, bi_ok, bi_bad, of_some, lk_dat, lks_nil, lks_cons, do_nil, do_cons, op_some, ob_some, b_add, b_sub, c_lt, c_le, c_gt, c_ge, c_eqS, c_neS, c_eqI, c_neI, c_eqB, c_neB, c_eqT, c_neT, c_eqL, c_neL, c_isB, c_isntB, c_is, c_isnt, eq_int, eq_bl, eq_pair, t_bl, t_int, t_lst, t_tup, l_tup, l_lst, l_scr, l_abs, l_int, l_intB, l_max, l_min, l_tt, l_tl, l_all, l_any, l_repr, s_tup, s_lst, s_scr, i_tt, i_ii, i_ib, i_it, ix0, ix1, ix2, v_var, v_cst, v_glo, v_tup, v_lst, v_lsts, d_nil, d_star, d_one, l_max1, l_min1, l_sum, v_bin, v_neg, v_nt, v_cmp, v_chain, v_and, v_or, v_ite, v_sub, v_rev, v_call, v_blt, v_isi, v_comp, evs, evAnd, evOr, evIfs, evT, evTAnd, evTOr, parS, bi_asc, tgD, tgDs, wipeS, slotsOf, slotsOfs, szk, eqn, hne, s_last hne, hla, con_N, ne0]
  · rw [c_law_is_word]
    refine ru_dat rfl rfl rfl rfl ?_
    have ew := lw_walk lv m (p ++ [0]) hb hlen
    have en : eqD (.lst []) (.lst []) = some true := eqL1 ([] : List Nat)
    simp [d_law_is_word, b_law_is_word, x_nil, x_cons, x_set, x_setT, x_par, x_ife, x_ret, x_retf, n_lst, n_call, x_newl, x_exp, bi_ok, bi_bad, of_some, lk_dat, lks_nil, lks_cons, do_nil, do_cons, op_some, ob_some, b_add, b_sub, c_lt, c_le, c_gt, c_ge, c_eqS, c_neS, c_eqI, c_neI, c_eqB, c_neB, c_eqT, c_neT, c_eqL, c_neL, c_isB, c_isntB, c_is, c_isnt, eq_int, eq_bl, eq_pair, t_bl, t_int, t_lst, t_tup, l_tup, l_lst, l_scr, l_abs, l_int, l_intB, l_max, l_min, l_tt, l_tl, l_all, l_any, l_repr, s_tup, s_lst, s_scr, i_tt, i_ii, i_ib, i_it, ix0, ix1, ix2, v_var, v_cst, v_glo, v_tup, v_lst, v_lsts, d_nil, d_star, d_one, l_max1, l_min1, l_sum, v_bin, v_neg, v_nt, v_cmp, v_chain, v_and, v_or, v_ite, v_sub, v_rev, v_call, v_blt, v_isi, v_comp, evs, evAnd, evOr, evIfs, evT, evTAnd, evTOr, parS, bi_asc, tgD, tgDs, wipeS, slotsOf, slotsOfs, szk, i_wd, ew, en, eqn, hne, s_last hne, hla, s_fr0, num0]
end K24

set_option Elab.async false
set_option linter.all false
set_option maxRecDepth 100000
set_option maxHeartbeats 2000000
set_option exponentiation.threshold 10000
namespace K24
open PySem EV POLY
/-- both judges say the same of a value -/
def Jv (A B : List Rat) (v : D) : Prop := ∃ b : Bool, (∀ lv m, callF W0 (lv + 6) 25 [.dat (wd A), .dat (wd B), .dat v] m = .ok (.vl (.dat (.bl b))) m) ∧ (∀ lv m, callF W0 (lv + 5) 44 [.dat (wd A), .dat (wd B), .dat v] m = .ok (.vl (.dat (.bl b))) m)
theorem l_tupl (ds : List D) : bltD .len [.tup ds] = some (.int ds.length) := rfl
theorem e_id (r : R (List D)) : (r.bind fun l m => .ok l m) = r := by cases r <;> rfl
section
variable {A B : List Rat} (hA : Cd 20 20 A) (hB : Cd 20 20 B)
include hA hB
theorem jv_not {v : D} (e : isiD v "tuple" = some false) : Jv A B v := by
  refine ⟨false, fun lv m => ?_, fun lv m => ?_⟩
  · rw [c_is_common_paper]
    refine ru_dat rfl rfl rfl rfl ?_
    simp [d_is_common_paper, b_is_common_paper, x_nil, x_cons, x_set, x_setT, x_par, x_ife, x_ret, x_retf, n_lst, n_call, x_newl, x_exp, bi_ok, bi_bad, of_some, lk_dat, lks_nil, lks_cons, do_nil, do_cons, op_some, ob_some, b_add, b_sub, c_lt, c_le, c_gt, c_ge, c_eqS, c_neS, c_eqI, c_neI, c_eqB, c_neB, c_eqT, c_neT, c_eqL, c_neL, c_isB, c_isntB, c_is, c_isnt, eq_int, eq_bl, eq_pair, t_bl, t_int, t_lst, t_tup, l_tup, l_lst, l_scr, l_abs, l_int, l_intB, l_max, l_min, l_tt, l_tl, l_all, l_any, l_repr, s_tup, s_lst, s_scr, i_tt, i_ii, i_ib, i_it, ix0, ix1, ix2, v_var, v_cst, v_glo, v_tup, v_lst, v_lsts, d_nil, d_star, d_one, l_max1, l_min1, l_sum, v_bin, v_neg, v_nt, v_cmp, v_chain, v_and, v_or, v_ite, v_sub, v_rev, v_call, v_blt, v_isi, v_comp, evs, evAnd, evOr, evIfs, evT, evTAnd, evTOr, parS, bi_asc, tgD, tgDs, wipeS, slotsOf, slotsOfs, szk, reqC_ok lv _ _ m A hA (by decide) (by decide), reqC_ok lv _ _ m B hB (by decide) (by decide), e]
  · rw [c_law_is_paper]
    refine ru_dat rfl rfl rfl rfl ?_
    have c : callF W0 (lv + 4) 41 [.dat (.int 5), .dat v] m = .ok (.vl (.dat (.bl false))) m := by
      rw [c_law_is_words]
      refine ru_dat rfl rfl rfl rfl ?_
      simp [d_law_is_words, b_law_is_words, x_nil, x_cons, x_set, x_setT, x_par, x_ife, x_ret, x_retf, n_lst, n_call, x_newl, x_exp, bi_ok, bi_bad, of_some, lk_dat, lks_nil, lks_cons, do_nil, do_cons, op_some, ob_some, b_add, b_sub, c_lt, c_le, c_gt, c_ge, c_eqS, c_neS, c_eqI, c_neI, c_eqB, c_neB, c_eqT, c_neT, c_eqL, c_neL, c_isB, c_isntB, c_is, c_isnt, eq_int, eq_bl, eq_pair, t_bl, t_int, t_lst, t_tup, l_tup, l_lst, l_scr, l_abs, l_int, l_intB, l_max, l_min, l_tt, l_tl, l_all, l_any, l_repr, s_tup, s_lst, s_scr, i_tt, i_ii, i_ib, i_it, ix0, ix1, ix2, v_var, v_cst, v_glo, v_tup, v_lst, v_lsts, d_nil, d_star, d_one, l_max1, l_min1, l_sum, v_bin, v_neg, v_nt, v_cmp, v_chain, v_and, v_or, v_ite, v_sub, v_rev, v_call, v_blt, v_isi, v_comp, evs, evAnd, evOr, evIfs, evT, evTAnd, evTOr, parS, bi_asc, tgD, tgDs, wipeS, slotsOf, slotsOfs, szk, e]
    simp [d_law_is_paper, b_law_is_paper, x_nil, x_cons, x_set, x_setT, x_par, x_ife, x_ret, x_retf, n_lst, n_call, x_newl, x_exp, bi_ok, bi_bad, of_some, lk_dat, lks_nil, lks_cons, do_nil, do_cons, op_some, ob_some, b_add, b_sub, c_lt, c_le, c_gt, c_ge, c_eqS, c_neS, c_eqI, c_neI, c_eqB, c_neB, c_eqT, c_neT, c_eqL, c_neL, c_isB, c_isntB, c_is, c_isnt, eq_int, eq_bl, eq_pair, t_bl, t_int, t_lst, t_tup, l_tup, l_lst, l_scr, l_abs, l_int, l_intB, l_max, l_min, l_tt, l_tl, l_all, l_any, l_repr, s_tup, s_lst, s_scr, i_tt, i_ii, i_ib, i_it, ix0, ix1, ix2, v_var, v_cst, v_glo, v_tup, v_lst, v_lsts, d_nil, d_star, d_one, l_max1, l_min1, l_sum, v_bin, v_neg, v_nt, v_cmp, v_chain, v_and, v_or, v_ite, v_sub, v_rev, v_call, v_blt, v_isi, v_comp, evs, evAnd, evOr, evIfs, evT, evTAnd, evTOr, parS, bi_asc, tgD, tgDs, wipeS, slotsOf, slotsOfs, szk, c]
theorem jv_len {ds : List D} (h : ds.length ≠ 5) : Jv A B (.tup ds) := by
  have h' : ¬ (ds.length : Int) = 5 := by omega
  refine ⟨false, fun lv m => ?_, fun lv m => ?_⟩
  · rw [c_is_common_paper]
    refine ru_dat rfl rfl rfl rfl ?_
    simp [d_is_common_paper, b_is_common_paper, x_nil, x_cons, x_set, x_setT, x_par, x_ife, x_ret, x_retf, n_lst, n_call, x_newl, x_exp, bi_ok, bi_bad, of_some, lk_dat, lks_nil, lks_cons, do_nil, do_cons, op_some, ob_some, b_add, b_sub, c_lt, c_le, c_gt, c_ge, c_eqS, c_neS, c_eqI, c_neI, c_eqB, c_neB, c_eqT, c_neT, c_eqL, c_neL, c_isB, c_isntB, c_is, c_isnt, eq_int, eq_bl, eq_pair, t_bl, t_int, t_lst, t_tup, l_tup, l_lst, l_scr, l_abs, l_int, l_intB, l_max, l_min, l_tt, l_tl, l_all, l_any, l_repr, s_tup, s_lst, s_scr, i_tt, i_ii, i_ib, i_it, ix0, ix1, ix2, v_var, v_cst, v_glo, v_tup, v_lst, v_lsts, d_nil, d_star, d_one, l_max1, l_min1, l_sum, v_bin, v_neg, v_nt, v_cmp, v_chain, v_and, v_or, v_ite, v_sub, v_rev, v_call, v_blt, v_isi, v_comp, evs, evAnd, evOr, evIfs, evT, evTAnd, evTOr, parS, bi_asc, tgD, tgDs, wipeS, slotsOf, slotsOfs, szk, reqC_ok lv _ _ m A hA (by decide) (by decide), reqC_ok lv _ _ m B hB (by decide) (by decide), h']
  · rw [c_law_is_paper]
    refine ru_dat rfl rfl rfl rfl ?_
    have c : callF W0 (lv + 4) 41 [.dat (.int 5), .dat (.tup ds)] m = .ok (.vl (.dat (.bl false))) m := by
      rw [c_law_is_words]
      refine ru_dat rfl rfl rfl rfl ?_
      simp [d_law_is_words, b_law_is_words, x_nil, x_cons, x_set, x_setT, x_par, x_ife, x_ret, x_retf, n_lst, n_call, x_newl, x_exp, bi_ok, bi_bad, of_some, lk_dat, lks_nil, lks_cons, do_nil, do_cons, op_some, ob_some, b_add, b_sub, c_lt, c_le, c_gt, c_ge, c_eqS, c_neS, c_eqI, c_neI, c_eqB, c_neB, c_eqT, c_neT, c_eqL, c_neL, c_isB, c_isntB, c_is, c_isnt, eq_int, eq_bl, eq_pair, t_bl, t_int, t_lst, t_tup, l_tup, l_lst, l_scr, l_abs, l_int, l_intB, l_max, l_min, l_tt, l_tl, l_all, l_any, l_repr, s_tup, s_lst, s_scr, i_tt, i_ii, i_ib, i_it, ix0, ix1, ix2, v_var, v_cst, v_glo, v_tup, v_lst, v_lsts, d_nil, d_star, d_one, l_max1, l_min1, l_sum, v_bin, v_neg, v_nt, v_cmp, v_chain, v_and, v_or, v_ite, v_sub, v_rev, v_call, v_blt, v_isi, v_comp, evs, evAnd, evOr, evIfs, evT, evTAnd, evTOr, parS, bi_asc, tgD, tgDs, wipeS, slotsOf, slotsOfs, szk, h']
    simp [d_law_is_paper, b_law_is_paper, x_nil, x_cons, x_set, x_setT, x_par, x_ife, x_ret, x_retf, n_lst, n_call, x_newl, x_exp, bi_ok, bi_bad, of_some, lk_dat, lks_nil, lks_cons, do_nil, do_cons, op_some, ob_some, b_add, b_sub, c_lt, c_le, c_gt, c_ge, c_eqS, c_neS, c_eqI, c_neI, c_eqB, c_neB, c_eqT, c_neT, c_eqL, c_neL, c_isB, c_isntB, c_is, c_isnt, eq_int, eq_bl, eq_pair, t_bl, t_int, t_lst, t_tup, l_tup, l_lst, l_scr, l_abs, l_int, l_intB, l_max, l_min, l_tt, l_tl, l_all, l_any, l_repr, s_tup, s_lst, s_scr, i_tt, i_ii, i_ib, i_it, ix0, ix1, ix2, v_var, v_cst, v_glo, v_tup, v_lst, v_lsts, d_nil, d_star, d_one, l_max1, l_min1, l_sum, v_bin, v_neg, v_nt, v_cmp, v_chain, v_and, v_or, v_ite, v_sub, v_rev, v_call, v_blt, v_isi, v_comp, evs, evAnd, evOr, evIfs, evT, evTAnd, evTOr, parS, bi_asc, tgD, tgDs, wipeS, slotsOf, slotsOfs, szk, c]
theorem icp_walk (lv : Nat) (m : Sto) (l : List (D × Bool)) (hl : l.length = 5) (hi : ∀ x ∈ l, It x.1 x.2) : evC W0 (callF W0 (lv + 5)) (.nm 8) .seq [(.var 2)] [] (.call 18 [(.var 8)]) [some (.dat (wd A)), some (.dat (wd B)), some (.dat (.tup (l.map Prod.fst))), none, none, none, none, none, none] m = .ok (l.map fun x => D.bl x.2) m := by
  refine evC_enc (W := W0) (C := callF W0 (lv + 5)) (s := [some (.dat (wd A)), some (.dat (wd B)), some (.dat (.tup (l.map Prod.fst))), none, none, none, none, none, none]) (src := [(.var 2)]) (ik := .seq) (ds := [.tup (l.map Prod.fst)]) (m := m) (vs := [.dat (.tup (l.map Prod.fst))]) (m1 := m) (enc := Prod.fst) (fun x => D.bl x.2) l (by rfl) (by rfl) rfl (by omega) (fun x hx => ?_)
  refine turn0 rfl ?_
  simp [x_nil, x_cons, x_set, x_setT, x_par, x_ife, x_ret, x_retf, n_lst, n_call, x_newl, x_exp, bi_ok, bi_bad, of_some, lk_dat, lks_nil, lks_cons, do_nil, do_cons, op_some, ob_some, b_add, b_sub, c_lt, c_le, c_gt, c_ge, c_eqS, c_neS, c_eqI, c_neI, c_eqB, c_neB, c_eqT, c_neT, c_eqL, c_neL, c_isB, c_isntB, c_is, c_isnt, eq_int, eq_bl, eq_pair, t_bl, t_int, t_lst, t_tup, l_tup, l_lst, l_scr, l_abs, l_int, l_intB, l_max, l_min, l_tt, l_tl, l_all, l_any, l_repr, s_tup, s_lst, s_scr, i_tt, i_ii, i_ib, i_it, ix0, ix1, ix2, v_var, v_cst, v_glo, v_tup, v_lst, v_lsts, d_nil, d_star, d_one, l_max1, l_min1, l_sum, v_bin, v_neg, v_nt, v_cmp, v_chain, v_and, v_or, v_ite, v_sub, v_rev, v_call, v_blt, v_isi, v_comp, evs, evAnd, evOr, evIfs, evT, evTAnd, evTOr, parS, bi_asc, tgD, tgDs, wipeS, slotsOf, slotsOfs, szk, wipeS, slotsOf, (hi x hx).s]
theorem law_walk (lv : Nat) (m : Sto) (l : List (D × Bool)) (hl : l.length = 5) (hi : ∀ x ∈ l, It x.1 x.2) : callF W0 (lv + 4) 41 [.dat (.int 5), .dat (.tup (l.map Prod.fst))] m = .ok (.vl (.dat (.bl (l.all fun x => x.2)))) m := by
  rw [c_law_is_words]
  refine ru_dat rfl rfl rfl rfl ?_
  simp [d_law_is_words, b_law_is_words, x_nil, x_cons, x_set, x_setT, x_par, x_ife, x_ret, x_retf, n_lst, n_call, x_newl, x_exp, bi_ok, bi_bad, of_some, lk_dat, lks_nil, lks_cons, do_nil, do_cons, op_some, ob_some, b_add, b_sub, c_lt, c_le, c_gt, c_ge, c_eqS, c_neS, c_eqI, c_neI, c_eqB, c_neB, c_eqT, c_neT, c_eqL, c_neL, c_isB, c_isntB, c_is, c_isnt, eq_int, eq_bl, eq_pair, t_bl, t_int, t_lst, t_tup, l_tup, l_lst, l_scr, l_abs, l_int, l_intB, l_max, l_min, l_tt, l_tl, l_all, l_any, l_repr, s_tup, s_lst, s_scr, i_tt, i_ii, i_ib, i_it, ix0, ix1, ix2, v_var, v_cst, v_glo, v_tup, v_lst, v_lsts, d_nil, d_star, d_one, l_max1, l_min1, l_sum, v_bin, v_neg, v_nt, v_cmp, v_chain, v_and, v_or, v_ite, v_sub, v_rev, v_call, v_blt, v_isi, v_comp, evs, evAnd, evOr, evIfs, evT, evTAnd, evTOr, parS, bi_asc, tgD, tgDs, wipeS, slotsOf, slotsOfs, szk, hl]
  refine bind_evF (enc := Prod.fst) (fun _ => D.int 1) (fun x => !x.2) l rfl rfl rfl (by omega) (fun x hx => ?_) ?_
  · unfold turnC
    have hx' := (hi x hx).l
    cases e : x.2 with
    | true =>
      rw [e] at hx'
      simp [tgD, x_nil, x_cons, x_set, x_setT, x_par, x_ife, x_ret, x_retf, n_lst, n_call, x_newl, x_exp, bi_ok, bi_bad, of_some, lk_dat, lks_nil, lks_cons, do_nil, do_cons, op_some, ob_some, b_add, b_sub, c_lt, c_le, c_gt, c_ge, c_eqS, c_neS, c_eqI, c_neI, c_eqB, c_neB, c_eqT, c_neT, c_eqL, c_neL, c_isB, c_isntB, c_is, c_isnt, eq_int, eq_bl, eq_pair, t_bl, t_int, t_lst, t_tup, l_tup, l_lst, l_scr, l_abs, l_int, l_intB, l_max, l_min, l_tt, l_tl, l_all, l_any, l_repr, s_tup, s_lst, s_scr, i_tt, i_ii, i_ib, i_it, ix0, ix1, ix2, v_var, v_cst, v_glo, v_tup, v_lst, v_lsts, d_nil, d_star, d_one, l_max1, l_min1, l_sum, v_bin, v_neg, v_nt, v_cmp, v_chain, v_and, v_or, v_ite, v_sub, v_rev, v_call, v_blt, v_isi, v_comp, evs, evAnd, evOr, evIfs, evT, evTAnd, evTOr, parS, bi_asc, tgD, tgDs, wipeS, slotsOf, slotsOfs, szk, wipeS, slotsOf, evIfs, noX, hx']
    | false =>
      rw [e] at hx'
      simp [tgD, x_nil, x_cons, x_set, x_setT, x_par, x_ife, x_ret, x_retf, n_lst, n_call, x_newl, x_exp, bi_ok, bi_bad, of_some, lk_dat, lks_nil, lks_cons, do_nil, do_cons, op_some, ob_some, b_add, b_sub, c_lt, c_le, c_gt, c_ge, c_eqS, c_neS, c_eqI, c_neI, c_eqB, c_neB, c_eqT, c_neT, c_eqL, c_neL, c_isB, c_isntB, c_is, c_isnt, eq_int, eq_bl, eq_pair, t_bl, t_int, t_lst, t_tup, l_tup, l_lst, l_scr, l_abs, l_int, l_intB, l_max, l_min, l_tt, l_tl, l_all, l_any, l_repr, s_tup, s_lst, s_scr, i_tt, i_ii, i_ib, i_it, ix0, ix1, ix2, v_var, v_cst, v_glo, v_tup, v_lst, v_lsts, d_nil, d_star, d_one, l_max1, l_min1, l_sum, v_bin, v_neg, v_nt, v_cmp, v_chain, v_and, v_or, v_ite, v_sub, v_rev, v_call, v_blt, v_isi, v_comp, evs, evAnd, evOr, evIfs, evT, evTAnd, evTOr, parS, bi_asc, tgD, tgDs, wipeS, slotsOf, slotsOfs, szk, wipeS, slotsOf, evIfs, noX, hx']
  · have en := eqL1 (l.filter fun x => !x.2)
    simp only [x_nil, x_cons, x_set, x_setT, x_par, x_ife, x_ret, x_retf, n_lst, n_call, x_newl, x_exp, bi_ok, bi_bad, of_some, lk_dat, lks_nil, lks_cons, do_nil, do_cons, op_some, ob_some, b_add, b_sub, c_lt, c_le, c_gt, c_ge, c_eqS, c_neS, c_eqI, c_neI, c_eqB, c_neB, c_eqT, c_neT, c_eqL, c_neL, c_isB, c_isntB, c_is, c_isnt, eq_int, eq_bl, eq_pair, t_bl, t_int, t_lst, t_tup, l_tup, l_lst, l_scr, l_abs, l_int, l_intB, l_max, l_min, l_tt, l_tl, l_all, l_any, l_repr, s_tup, s_lst, s_scr, i_tt, i_ii, i_ib, i_it, ix0, ix1, ix2, v_var, v_cst, v_glo, v_tup, v_lst, v_lsts, d_nil, d_star, d_one, l_max1, l_min1, l_sum, v_bin, v_neg, v_nt, v_cmp, v_chain, v_and, v_or, v_ite, v_sub, v_rev, v_call, v_blt, v_isi, v_comp, evs, evAnd, evOr, evIfs, evT, evTAnd, evTOr, parS, bi_asc, tgD, tgDs, wipeS, slotsOf, slotsOfs, szk, en]
    simp [x_nil, x_cons, x_set, x_setT, x_par, x_ife, x_ret, x_retf, n_lst, n_call, x_newl, x_exp, bi_ok, bi_bad, of_some, lk_dat, lks_nil, lks_cons, do_nil, do_cons, op_some, ob_some, b_add, b_sub, c_lt, c_le, c_gt, c_ge, c_eqS, c_neS, c_eqI, c_neI, c_eqB, c_neB, c_eqT, c_neT, c_eqL, c_neL, c_isB, c_isntB, c_is, c_isnt, eq_int, eq_bl, eq_pair, t_bl, t_int, t_lst, t_tup, l_tup, l_lst, l_scr, l_abs, l_int, l_intB, l_max, l_min, l_tt, l_tl, l_all, l_any, l_repr, s_tup, s_lst, s_scr, i_tt, i_ii, i_ib, i_it, ix0, ix1, ix2, v_var, v_cst, v_glo, v_tup, v_lst, v_lsts, d_nil, d_star, d_one, l_max1, l_min1, l_sum, v_bin, v_neg, v_nt, v_cmp, v_chain, v_and, v_or, v_ite, v_sub, v_rev, v_call, v_blt, v_isi, v_comp, evs, evAnd, evOr, evIfs, evT, evTAnd, evTOr, parS, bi_asc, tgD, tgDs, wipeS, slotsOf, slotsOfs, szk]
    rw [Bool.eq_iff_iff]
    simp [List.filter_eq_nil_iff]
theorem jv_odd {l : List (D × Bool)} (hl : l.length = 5) (hi : ∀ x ∈ l, It x.1 x.2) (ho : l.all (fun x => x.2) = false) : Jv A B (.tup (l.map Prod.fst)) := by
  refine ⟨false, fun lv m => ?_, fun lv m => ?_⟩
  · rw [c_is_common_paper]
    refine ru_dat rfl rfl rfl rfl ?_
    have ec := icp_walk hA hB lv m l hl hi
    have ha := allD_map (fun x : D × Bool => x.2) l
    rw [ho] at ha
    simp [d_is_common_paper, b_is_common_paper, x_nil, x_cons, x_set, x_setT, x_par, x_ife, x_ret, x_retf, n_lst, n_call, x_newl, x_exp, bi_ok, bi_bad, of_some, lk_dat, lks_nil, lks_cons, do_nil, do_cons, op_some, ob_some, b_add, b_sub, c_lt, c_le, c_gt, c_ge, c_eqS, c_neS, c_eqI, c_neI, c_eqB, c_neB, c_eqT, c_neT, c_eqL, c_neL, c_isB, c_isntB, c_is, c_isnt, eq_int, eq_bl, eq_pair, t_bl, t_int, t_lst, t_tup, l_tup, l_lst, l_scr, l_abs, l_int, l_intB, l_max, l_min, l_tt, l_tl, l_all, l_any, l_repr, s_tup, s_lst, s_scr, i_tt, i_ii, i_ib, i_it, ix0, ix1, ix2, v_var, v_cst, v_glo, v_tup, v_lst, v_lsts, d_nil, d_star, d_one, l_max1, l_min1, l_sum, v_bin, v_neg, v_nt, v_cmp, v_chain, v_and, v_or, v_ite, v_sub, v_rev, v_call, v_blt, v_isi, v_comp, evs, evAnd, evOr, evIfs, evT, evTAnd, evTOr, parS, bi_asc, tgD, tgDs, wipeS, slotsOf, slotsOfs, szk, reqC_ok lv _ _ m A hA (by decide) (by decide), reqC_ok lv _ _ m B hB (by decide) (by decide), hl, ec, ha]
  · rw [c_law_is_paper]
    refine ru_dat rfl rfl rfl rfl ?_
    have c := law_walk hA hB lv m l hl hi
    rw [ho] at c
    simp [d_law_is_paper, b_law_is_paper, x_nil, x_cons, x_set, x_setT, x_par, x_ife, x_ret, x_retf, n_lst, n_call, x_newl, x_exp, bi_ok, bi_bad, of_some, lk_dat, lks_nil, lks_cons, do_nil, do_cons, op_some, ob_some, b_add, b_sub, c_lt, c_le, c_gt, c_ge, c_eqS, c_neS, c_eqI, c_neI, c_eqB, c_neB, c_eqT, c_neT, c_eqL, c_neL, c_isB, c_isntB, c_is, c_isnt, eq_int, eq_bl, eq_pair, t_bl, t_int, t_lst, t_tup, l_tup, l_lst, l_scr, l_abs, l_int, l_intB, l_max, l_min, l_tt, l_tl, l_all, l_any, l_repr, s_tup, s_lst, s_scr, i_tt, i_ii, i_ib, i_it, ix0, ix1, ix2, v_var, v_cst, v_glo, v_tup, v_lst, v_lsts, d_nil, d_star, d_one, l_max1, l_min1, l_sum, v_bin, v_neg, v_nt, v_cmp, v_chain, v_and, v_or, v_ite, v_sub, v_rev, v_call, v_blt, v_isi, v_comp, evs, evAnd, evOr, evIfs, evT, evTAnd, evTOr, parS, bi_asc, tgD, tgDs, wipeS, slotsOf, slotsOfs, szk, c]
/-- words that might be a common paper -/
structure Ws (g l r f t : List Rat) : Prop where
  g : Cd 1450 60 g
  l : Cd 1450 60 l
  r : Cd 1450 60 r
  f : Cd 2300 60 f
  t : Cd 2300 60 t
omit hA hB in
theorem ne1 (a : Rat) : cmpD .NotEq (fr a) (.tup [.int 1, .int 1]) = some (!decide (a = 1)) := ne_fr a 1
/-- what both find of five words -/
def jd (A B g l r f t : List Rat) : Bool := (decide (g = []) || decide (lc g = 1)) && (decide (mulW l g = A) && decide (mulW r g = B)) && decide (addW (mulW f A) (mulW t B) = g)
theorem law_judge (lv : Nat) (m : Sto) {g l r f t : List Rat} (h : Ws g l r f t) : callF W0 (lv + 5) 44 [.dat (wd A), .dat (wd B), .dat (.tup [wd g, wd l, wd r, wd f, wd t])] m = .ok (.vl (.dat (.bl (jd A B g l r f t)))) m := by
  rw [c_law_is_paper]
  refine ru_dat rfl rfl rfl rfl ?_
  have hw : ∀ x ∈ [(wd g, true), (wd l, true), (wd r, true), (wd f, true), (wd t, true)], It x.1 x.2 := by
    intro x hx
    simp at hx
    rcases hx with rfl | rfl | rfl | rfl | rfl
    · exact it_word h.g (by decide) (by decide)
    · exact it_word h.l (by decide) (by decide)
    · exact it_word h.r (by decide) (by decide)
    · exact it_word h.f (by decide) (by decide)
    · exact it_word h.t (by decide) (by decide)
  have c : callF W0 (lv + 4) 41 [.dat (.int 5), .dat (.tup [wd g, wd l, wd r, wd f, wd t])] m = .ok (.vl (.dat (.bl true))) m := law_walk hA hB lv m [(wd g, true), (wd l, true), (wd r, true), (wd f, true), (wd t, true)] rfl hw
  have e2 : evC W0 (callF W0 (lv + 4)) (.nm 8) .seq [(.var 2)] [(.cmp .Gt (.blt .len [(.var 8)]) (.cst (.int 201)))] (.cst (.int 1)) [some (.dat (wd A)), some (.dat (wd B)), some (.dat (.tup [wd g, wd l, wd r, wd f, wd t])), none, none, none, none, none, none] m = .ok [] m := by
    have := bind_evF (β := List D) (W := W0) (C := callF W0 (lv + 4)) (s := [some (.dat (wd A)), some (.dat (wd B)), some (.dat (.tup [wd g, wd l, wd r, wd f, wd t])), none, none, none, none, none, none]) (m := m) (m1 := m) (vs := [.dat (.tup [wd g, wd l, wd r, wd f, wd t])]) (ds := [.tup [wd g, wd l, wd r, wd f, wd t]]) (enc := wd) (tg := .nm 8) (ik := .seq) (src := [(.var 2)]) (ifs := [(.cmp .Gt (.blt .len [(.var 8)]) (.cst (.int 201)))]) (elt := .cst (.int 1)) (z := .ok [] m) (fun _ => D.int 1) (fun _ => false) [g, l, r, f, t] rfl rfl rfl (by simp) (fun x hx => by
      have hx1 : x.length ≤ 60 := by
        simp at hx
        rcases hx with rfl | rfl | rfl | rfl | rfl
        · exact h.g.ln
        · exact h.l.ln
        · exact h.r.ln
        · exact h.f.ln
        · exact h.t.ln
      have hx2 : ¬ (201 : Int) < x.length := by omega
      unfold turnC
      simp [tgD, x_nil, x_cons, x_set, x_setT, x_par, x_ife, x_ret, x_retf, n_lst, n_call, x_newl, x_exp, bi_ok, bi_bad, of_some, lk_dat, lks_nil, lks_cons, do_nil, do_cons, op_some, ob_some, b_add, b_sub, c_lt, c_le, c_gt, c_ge, c_eqS, c_neS, c_eqI, c_neI, c_eqB, c_neB, c_eqT, c_neT, c_eqL, c_neL, c_isB, c_isntB, c_is, c_isnt, eq_int, eq_bl, eq_pair, t_bl, t_int, t_lst, t_tup, l_tup, l_lst, l_scr, l_abs, l_int, l_intB, l_max, l_min, l_tt, l_tl, l_all, l_any, l_repr, s_tup, s_lst, s_scr, i_tt, i_ii, i_ib, i_it, ix0, ix1, ix2, v_var, v_cst, v_glo, v_tup, v_lst, v_lsts, d_nil, d_star, d_one, l_max1, l_min1, l_sum, v_bin, v_neg, v_nt, v_cmp, v_chain, v_and, v_or, v_ite, v_sub, v_rev, v_call, v_blt, v_isi, v_comp, evs, evAnd, evOr, evIfs, evT, evTAnd, evTOr, parS, bi_asc, tgD, tgDs, wipeS, slotsOf, slotsOfs, szk, wipeS, slotsOf, evIfs, noX, l_wd, hx2]) (f := fun l m => .ok l m) rfl
    rw [e_id] at this
    exact this
  have en : eqD (.lst []) (.lst []) = some true := eqL1 ([] : List Nat)
  have p1 := timesC_ok (lv + 1) _ _ _ _ m l g h.l h.g (by decide) (by decide)
  have p2 := timesC_ok (lv + 1) _ _ _ _ m r g h.r h.g (by decide) (by decide)
  have p3 := timesC_ok (lv + 1) _ _ _ _ m f A h.f hA (by decide) (by decide)
  have p4 := timesC_ok (lv + 1) _ _ _ _ m t B h.t hB (by decide) (by decide)
  have p5 := plusC_ok (lv + 1) _ _ _ _ m (mulW f A) (mulW t B) (h.f.mul hA) (h.t.mul hB) (by decide) (by decide) (by decide) (by decide)
  unfold jd
  by_cases g0 : g = []
  · subst g0
    by_cases m1 : mulW l [] = A
    · by_cases m2 : mulW r [] = B
      · simp [d_law_is_paper, b_law_is_paper, x_nil, x_cons, x_set, x_setT, x_par, x_ife, x_ret, x_retf, n_lst, n_call, x_newl, x_exp, bi_ok, bi_bad, of_some, lk_dat, lks_nil, lks_cons, do_nil, do_cons, op_some, ob_some, b_add, b_sub, c_lt, c_le, c_gt, c_ge, c_eqS, c_neS, c_eqI, c_neI, c_eqB, c_neB, c_eqT, c_neT, c_eqL, c_neL, c_isB, c_isntB, c_is, c_isnt, eq_int, eq_bl, eq_pair, t_bl, t_int, t_lst, t_tup, l_tup, l_lst, l_scr, l_abs, l_int, l_intB, l_max, l_min, l_tt, l_tl, l_all, l_any, l_repr, s_tup, s_lst, s_scr, i_tt, i_ii, i_ib, i_it, ix0, ix1, ix2, v_var, v_cst, v_glo, v_tup, v_lst, v_lsts, d_nil, d_star, d_one, l_max1, l_min1, l_sum, v_bin, v_neg, v_nt, v_cmp, v_chain, v_and, v_or, v_ite, v_sub, v_rev, v_call, v_blt, v_isi, v_comp, evs, evAnd, evOr, evIfs, evT, evTAnd, evTOr, parS, bi_asc, tgD, tgDs, wipeS, slotsOf, slotsOfs, szk, c, e2, en, tgD, tgDs, nen, p1, p2, ne_wd, eqq_wd, m1, m2, p3, p4, p5]
      · simp [d_law_is_paper, b_law_is_paper, x_nil, x_cons, x_set, x_setT, x_par, x_ife, x_ret, x_retf, n_lst, n_call, x_newl, x_exp, bi_ok, bi_bad, of_some, lk_dat, lks_nil, lks_cons, do_nil, do_cons, op_some, ob_some, b_add, b_sub, c_lt, c_le, c_gt, c_ge, c_eqS, c_neS, c_eqI, c_neI, c_eqB, c_neB, c_eqT, c_neT, c_eqL, c_neL, c_isB, c_isntB, c_is, c_isnt, eq_int, eq_bl, eq_pair, t_bl, t_int, t_lst, t_tup, l_tup, l_lst, l_scr, l_abs, l_int, l_intB, l_max, l_min, l_tt, l_tl, l_all, l_any, l_repr, s_tup, s_lst, s_scr, i_tt, i_ii, i_ib, i_it, ix0, ix1, ix2, v_var, v_cst, v_glo, v_tup, v_lst, v_lsts, d_nil, d_star, d_one, l_max1, l_min1, l_sum, v_bin, v_neg, v_nt, v_cmp, v_chain, v_and, v_or, v_ite, v_sub, v_rev, v_call, v_blt, v_isi, v_comp, evs, evAnd, evOr, evIfs, evT, evTAnd, evTOr, parS, bi_asc, tgD, tgDs, wipeS, slotsOf, slotsOfs, szk, c, e2, en, tgD, tgDs, nen, p1, p2, ne_wd, eqq_wd, m1, m2]
    · simp [d_law_is_paper, b_law_is_paper, x_nil, x_cons, x_set, x_setT, x_par, x_ife, x_ret, x_retf, n_lst, n_call, x_newl, x_exp, bi_ok, bi_bad, of_some, lk_dat, lks_nil, lks_cons, do_nil, do_cons, op_some, ob_some, b_add, b_sub, c_lt, c_le, c_gt, c_ge, c_eqS, c_neS, c_eqI, c_neI, c_eqB, c_neB, c_eqT, c_neT, c_eqL, c_neL, c_isB, c_isntB, c_is, c_isnt, eq_int, eq_bl, eq_pair, t_bl, t_int, t_lst, t_tup, l_tup, l_lst, l_scr, l_abs, l_int, l_intB, l_max, l_min, l_tt, l_tl, l_all, l_any, l_repr, s_tup, s_lst, s_scr, i_tt, i_ii, i_ib, i_it, ix0, ix1, ix2, v_var, v_cst, v_glo, v_tup, v_lst, v_lsts, d_nil, d_star, d_one, l_max1, l_min1, l_sum, v_bin, v_neg, v_nt, v_cmp, v_chain, v_and, v_or, v_ite, v_sub, v_rev, v_call, v_blt, v_isi, v_comp, evs, evAnd, evOr, evIfs, evT, evTAnd, evTOr, parS, bi_asc, tgD, tgDs, wipeS, slotsOf, slotsOfs, szk, c, e2, en, tgD, tgDs, nen, p1, p2, ne_wd, eqq_wd, m1]
  · by_cases g1 : lc g = 1
    · by_cases m1 : mulW l g = A
      · by_cases m2 : mulW r g = B
        · simp [d_law_is_paper, b_law_is_paper, x_nil, x_cons, x_set, x_setT, x_par, x_ife, x_ret, x_retf, n_lst, n_call, x_newl, x_exp, bi_ok, bi_bad, of_some, lk_dat, lks_nil, lks_cons, do_nil, do_cons, op_some, ob_some, b_add, b_sub, c_lt, c_le, c_gt, c_ge, c_eqS, c_neS, c_eqI, c_neI, c_eqB, c_neB, c_eqT, c_neT, c_eqL, c_neL, c_isB, c_isntB, c_is, c_isnt, eq_int, eq_bl, eq_pair, t_bl, t_int, t_lst, t_tup, l_tup, l_lst, l_scr, l_abs, l_int, l_intB, l_max, l_min, l_tt, l_tl, l_all, l_any, l_repr, s_tup, s_lst, s_scr, i_tt, i_ii, i_ib, i_it, ix0, ix1, ix2, v_var, v_cst, v_glo, v_tup, v_lst, v_lsts, d_nil, d_star, d_one, l_max1, l_min1, l_sum, v_bin, v_neg, v_nt, v_cmp, v_chain, v_and, v_or, v_ite, v_sub, v_rev, v_call, v_blt, v_isi, v_comp, evs, evAnd, evOr, evIfs, evT, evTAnd, evTOr, parS, bi_asc, tgD, tgDs, wipeS, slotsOf, slotsOfs, szk, c, e2, en, tgD, tgDs, nen, g0, s_lc g0, ne1, g1, p1, p2, ne_wd, eqq_wd, m1, m2, p3, p4, p5]
        · simp [d_law_is_paper, b_law_is_paper, x_nil, x_cons, x_set, x_setT, x_par, x_ife, x_ret, x_retf, n_lst, n_call, x_newl, x_exp, bi_ok, bi_bad, of_some, lk_dat, lks_nil, lks_cons, do_nil, do_cons, op_some, ob_some, b_add, b_sub, c_lt, c_le, c_gt, c_ge, c_eqS, c_neS, c_eqI, c_neI, c_eqB, c_neB, c_eqT, c_neT, c_eqL, c_neL, c_isB, c_isntB, c_is, c_isnt, eq_int, eq_bl, eq_pair, t_bl, t_int, t_lst, t_tup, l_tup, l_lst, l_scr, l_abs, l_int, l_intB, l_max, l_min, l_tt, l_tl, l_all, l_any, l_repr, s_tup, s_lst, s_scr, i_tt, i_ii, i_ib, i_it, ix0, ix1, ix2, v_var, v_cst, v_glo, v_tup, v_lst, v_lsts, d_nil, d_star, d_one, l_max1, l_min1, l_sum, v_bin, v_neg, v_nt, v_cmp, v_chain, v_and, v_or, v_ite, v_sub, v_rev, v_call, v_blt, v_isi, v_comp, evs, evAnd, evOr, evIfs, evT, evTAnd, evTOr, parS, bi_asc, tgD, tgDs, wipeS, slotsOf, slotsOfs, szk, c, e2, en, tgD, tgDs, nen, g0, s_lc g0, ne1, g1, p1, p2, ne_wd, eqq_wd, m1, m2]
      · simp [d_law_is_paper, b_law_is_paper, x_nil, x_cons, x_set, x_setT, x_par, x_ife, x_ret, x_retf, n_lst, n_call, x_newl, x_exp, bi_ok, bi_bad, of_some, lk_dat, lks_nil, lks_cons, do_nil, do_cons, op_some, ob_some, b_add, b_sub, c_lt, c_le, c_gt, c_ge, c_eqS, c_neS, c_eqI, c_neI, c_eqB, c_neB, c_eqT, c_neT, c_eqL, c_neL, c_isB, c_isntB, c_is, c_isnt, eq_int, eq_bl, eq_pair, t_bl, t_int, t_lst, t_tup, l_tup, l_lst, l_scr, l_abs, l_int, l_intB, l_max, l_min, l_tt, l_tl, l_all, l_any, l_repr, s_tup, s_lst, s_scr, i_tt, i_ii, i_ib, i_it, ix0, ix1, ix2, v_var, v_cst, v_glo, v_tup, v_lst, v_lsts, d_nil, d_star, d_one, l_max1, l_min1, l_sum, v_bin, v_neg, v_nt, v_cmp, v_chain, v_and, v_or, v_ite, v_sub, v_rev, v_call, v_blt, v_isi, v_comp, evs, evAnd, evOr, evIfs, evT, evTAnd, evTOr, parS, bi_asc, tgD, tgDs, wipeS, slotsOf, slotsOfs, szk, c, e2, en, tgD, tgDs, nen, g0, s_lc g0, ne1, g1, p1, p2, ne_wd, eqq_wd, m1]
    · simp [d_law_is_paper, b_law_is_paper, x_nil, x_cons, x_set, x_setT, x_par, x_ife, x_ret, x_retf, n_lst, n_call, x_newl, x_exp, bi_ok, bi_bad, of_some, lk_dat, lks_nil, lks_cons, do_nil, do_cons, op_some, ob_some, b_add, b_sub, c_lt, c_le, c_gt, c_ge, c_eqS, c_neS, c_eqI, c_neI, c_eqB, c_neB, c_eqT, c_neT, c_eqL, c_neL, c_isB, c_isntB, c_is, c_isnt, eq_int, eq_bl, eq_pair, t_bl, t_int, t_lst, t_tup, l_tup, l_lst, l_scr, l_abs, l_int, l_intB, l_max, l_min, l_tt, l_tl, l_all, l_any, l_repr, s_tup, s_lst, s_scr, i_tt, i_ii, i_ib, i_it, ix0, ix1, ix2, v_var, v_cst, v_glo, v_tup, v_lst, v_lsts, d_nil, d_star, d_one, l_max1, l_min1, l_sum, v_bin, v_neg, v_nt, v_cmp, v_chain, v_and, v_or, v_ite, v_sub, v_rev, v_call, v_blt, v_isi, v_comp, evs, evAnd, evOr, evIfs, evT, evTAnd, evTOr, parS, bi_asc, tgD, tgDs, wipeS, slotsOf, slotsOfs, szk, c, e2, en, tgD, tgDs, nen, g0, s_lc g0, ne1, g1]
theorem icp_judge (lv : Nat) (m : Sto) {g l r f t : List Rat} (h : Ws g l r f t) : callF W0 (lv + 6) 25 [.dat (wd A), .dat (wd B), .dat (.tup [wd g, wd l, wd r, wd f, wd t])] m = .ok (.vl (.dat (.bl (jd A B g l r f t)))) m := by
  rw [c_is_common_paper]
  refine ru_dat rfl rfl rfl rfl ?_
  have hw : ∀ x ∈ [(wd g, true), (wd l, true), (wd r, true), (wd f, true), (wd t, true)], It x.1 x.2 := by
    intro x hx
    simp at hx
    rcases hx with rfl | rfl | rfl | rfl | rfl
    · exact it_word h.g (by decide) (by decide)
    · exact it_word h.l (by decide) (by decide)
    · exact it_word h.r (by decide) (by decide)
    · exact it_word h.f (by decide) (by decide)
    · exact it_word h.t (by decide) (by decide)
  have ec : evC W0 (callF W0 (lv + 5)) (.nm 8) .seq [(.var 2)] [] (.call 18 [(.var 8)]) [some (.dat (wd A)), some (.dat (wd B)), some (.dat (.tup [wd g, wd l, wd r, wd f, wd t])), none, none, none, none, none, none] m = .ok [.bl true, .bl true, .bl true, .bl true, .bl true] m := icp_walk hA hB lv m [(wd g, true), (wd l, true), (wd r, true), (wd f, true), (wd t, true)] rfl hw
  have p1 := productC_ok lv _ _ _ _ m l g h.l h.g (by decide) (by decide)
  have p2 := productC_ok lv _ _ _ _ m r g h.r h.g (by decide) (by decide)
  have p3 := productC_ok lv _ _ _ _ m f A h.f hA (by decide) (by decide)
  have p4 := productC_ok lv _ _ _ _ m t B h.t hB (by decide) (by decide)
  have p5 := sumC_ok (lv + 1) _ _ _ _ m (mulW f A) (mulW t B) (h.f.mul hA) (h.t.mul hB) (by decide) (by decide) (by decide) (by decide)
  have r1 := reqC_ok lv _ _ m A hA (by decide) (by decide)
  have r2 := reqC_ok lv _ _ m B hB (by decide) (by decide)
  unfold jd
  by_cases g0 : g = []
  · subst g0
    by_cases m1 : mulW l [] = A
    · by_cases m2 : mulW r [] = B
      · simp [d_is_common_paper, b_is_common_paper, x_nil, x_cons, x_set, x_setT, x_par, x_ife, x_ret, x_retf, n_lst, n_call, x_newl, x_exp, bi_ok, bi_bad, of_some, lk_dat, lks_nil, lks_cons, do_nil, do_cons, op_some, ob_some, b_add, b_sub, c_lt, c_le, c_gt, c_ge, c_eqS, c_neS, c_eqI, c_neI, c_eqB, c_neB, c_eqT, c_neT, c_eqL, c_neL, c_isB, c_isntB, c_is, c_isnt, eq_int, eq_bl, eq_pair, t_bl, t_int, t_lst, t_tup, l_tup, l_lst, l_scr, l_abs, l_int, l_intB, l_max, l_min, l_tt, l_tl, l_all, l_any, l_repr, s_tup, s_lst, s_scr, i_tt, i_ii, i_ib, i_it, ix0, ix1, ix2, v_var, v_cst, v_glo, v_tup, v_lst, v_lsts, d_nil, d_star, d_one, l_max1, l_min1, l_sum, v_bin, v_neg, v_nt, v_cmp, v_chain, v_and, v_or, v_ite, v_sub, v_rev, v_call, v_blt, v_isi, v_comp, evs, evAnd, evOr, evIfs, evT, evTAnd, evTOr, parS, bi_asc, tgD, tgDs, wipeS, slotsOf, slotsOfs, szk, r1, r2, ec, allD, tgD, tgDs, nen, p1, p2, ne_wd, eqq_wd, m1, m2, p3, p4, p5]
      · simp [d_is_common_paper, b_is_common_paper, x_nil, x_cons, x_set, x_setT, x_par, x_ife, x_ret, x_retf, n_lst, n_call, x_newl, x_exp, bi_ok, bi_bad, of_some, lk_dat, lks_nil, lks_cons, do_nil, do_cons, op_some, ob_some, b_add, b_sub, c_lt, c_le, c_gt, c_ge, c_eqS, c_neS, c_eqI, c_neI, c_eqB, c_neB, c_eqT, c_neT, c_eqL, c_neL, c_isB, c_isntB, c_is, c_isnt, eq_int, eq_bl, eq_pair, t_bl, t_int, t_lst, t_tup, l_tup, l_lst, l_scr, l_abs, l_int, l_intB, l_max, l_min, l_tt, l_tl, l_all, l_any, l_repr, s_tup, s_lst, s_scr, i_tt, i_ii, i_ib, i_it, ix0, ix1, ix2, v_var, v_cst, v_glo, v_tup, v_lst, v_lsts, d_nil, d_star, d_one, l_max1, l_min1, l_sum, v_bin, v_neg, v_nt, v_cmp, v_chain, v_and, v_or, v_ite, v_sub, v_rev, v_call, v_blt, v_isi, v_comp, evs, evAnd, evOr, evIfs, evT, evTAnd, evTOr, parS, bi_asc, tgD, tgDs, wipeS, slotsOf, slotsOfs, szk, r1, r2, ec, allD, tgD, tgDs, nen, p1, p2, ne_wd, eqq_wd, m1, m2]
    · simp [d_is_common_paper, b_is_common_paper, x_nil, x_cons, x_set, x_setT, x_par, x_ife, x_ret, x_retf, n_lst, n_call, x_newl, x_exp, bi_ok, bi_bad, of_some, lk_dat, lks_nil, lks_cons, do_nil, do_cons, op_some, ob_some, b_add, b_sub, c_lt, c_le, c_gt, c_ge, c_eqS, c_neS, c_eqI, c_neI, c_eqB, c_neB, c_eqT, c_neT, c_eqL, c_neL, c_isB, c_isntB, c_is, c_isnt, eq_int, eq_bl, eq_pair, t_bl, t_int, t_lst, t_tup, l_tup, l_lst, l_scr, l_abs, l_int, l_intB, l_max, l_min, l_tt, l_tl, l_all, l_any, l_repr, s_tup, s_lst, s_scr, i_tt, i_ii, i_ib, i_it, ix0, ix1, ix2, v_var, v_cst, v_glo, v_tup, v_lst, v_lsts, d_nil, d_star, d_one, l_max1, l_min1, l_sum, v_bin, v_neg, v_nt, v_cmp, v_chain, v_and, v_or, v_ite, v_sub, v_rev, v_call, v_blt, v_isi, v_comp, evs, evAnd, evOr, evIfs, evT, evTAnd, evTOr, parS, bi_asc, tgD, tgDs, wipeS, slotsOf, slotsOfs, szk, r1, r2, ec, allD, tgD, tgDs, nen, p1, p2, ne_wd, eqq_wd, m1]
  · by_cases g1 : lc g = 1
    · by_cases m1 : mulW l g = A
      · by_cases m2 : mulW r g = B
        · simp [d_is_common_paper, b_is_common_paper, x_nil, x_cons, x_set, x_setT, x_par, x_ife, x_ret, x_retf, n_lst, n_call, x_newl, x_exp, bi_ok, bi_bad, of_some, lk_dat, lks_nil, lks_cons, do_nil, do_cons, op_some, ob_some, b_add, b_sub, c_lt, c_le, c_gt, c_ge, c_eqS, c_neS, c_eqI, c_neI, c_eqB, c_neB, c_eqT, c_neT, c_eqL, c_neL, c_isB, c_isntB, c_is, c_isnt, eq_int, eq_bl, eq_pair, t_bl, t_int, t_lst, t_tup, l_tup, l_lst, l_scr, l_abs, l_int, l_intB, l_max, l_min, l_tt, l_tl, l_all, l_any, l_repr, s_tup, s_lst, s_scr, i_tt, i_ii, i_ib, i_it, ix0, ix1, ix2, v_var, v_cst, v_glo, v_tup, v_lst, v_lsts, d_nil, d_star, d_one, l_max1, l_min1, l_sum, v_bin, v_neg, v_nt, v_cmp, v_chain, v_and, v_or, v_ite, v_sub, v_rev, v_call, v_blt, v_isi, v_comp, evs, evAnd, evOr, evIfs, evT, evTAnd, evTOr, parS, bi_asc, tgD, tgDs, wipeS, slotsOf, slotsOfs, szk, r1, r2, ec, allD, tgD, tgDs, nen, g0, s_lc g0, con_O, ne1, g1, p1, p2, ne_wd, eqq_wd, m1, m2, p3, p4, p5]
        · simp [d_is_common_paper, b_is_common_paper, x_nil, x_cons, x_set, x_setT, x_par, x_ife, x_ret, x_retf, n_lst, n_call, x_newl, x_exp, bi_ok, bi_bad, of_some, lk_dat, lks_nil, lks_cons, do_nil, do_cons, op_some, ob_some, b_add, b_sub, c_lt, c_le, c_gt, c_ge, c_eqS, c_neS, c_eqI, c_neI, c_eqB, c_neB, c_eqT, c_neT, c_eqL, c_neL, c_isB, c_isntB, c_is, c_isnt, eq_int, eq_bl, eq_pair, t_bl, t_int, t_lst, t_tup, l_tup, l_lst, l_scr, l_abs, l_int, l_intB, l_max, l_min, l_tt, l_tl, l_all, l_any, l_repr, s_tup, s_lst, s_scr, i_tt, i_ii, i_ib, i_it, ix0, ix1, ix2, v_var, v_cst, v_glo, v_tup, v_lst, v_lsts, d_nil, d_star, d_one, l_max1, l_min1, l_sum, v_bin, v_neg, v_nt, v_cmp, v_chain, v_and, v_or, v_ite, v_sub, v_rev, v_call, v_blt, v_isi, v_comp, evs, evAnd, evOr, evIfs, evT, evTAnd, evTOr, parS, bi_asc, tgD, tgDs, wipeS, slotsOf, slotsOfs, szk, r1, r2, ec, allD, tgD, tgDs, nen, g0, s_lc g0, con_O, ne1, g1, p1, p2, ne_wd, eqq_wd, m1, m2]
      · simp [d_is_common_paper, b_is_common_paper, x_nil, x_cons, x_set, x_setT, x_par, x_ife, x_ret, x_retf, n_lst, n_call, x_newl, x_exp, bi_ok, bi_bad, of_some, lk_dat, lks_nil, lks_cons, do_nil, do_cons, op_some, ob_some, b_add, b_sub, c_lt, c_le, c_gt, c_ge, c_eqS, c_neS, c_eqI, c_neI, c_eqB, c_neB, c_eqT, c_neT, c_eqL, c_neL, c_isB, c_isntB, c_is, c_isnt, eq_int, eq_bl, eq_pair, t_bl, t_int, t_lst, t_tup, l_tup, l_lst, l_scr, l_abs, l_int, l_intB, l_max, l_min, l_tt, l_tl, l_all, l_any, l_repr, s_tup, s_lst, s_scr, i_tt, i_ii, i_ib, i_it, ix0, ix1, ix2, v_var, v_cst, v_glo, v_tup, v_lst, v_lsts, d_nil, d_star, d_one, l_max1, l_min1, l_sum, v_bin, v_neg, v_nt, v_cmp, v_chain, v_and, v_or, v_ite, v_sub, v_rev, v_call, v_blt, v_isi, v_comp, evs, evAnd, evOr, evIfs, evT, evTAnd, evTOr, parS, bi_asc, tgD, tgDs, wipeS, slotsOf, slotsOfs, szk, r1, r2, ec, allD, tgD, tgDs, nen, g0, s_lc g0, con_O, ne1, g1, p1, p2, ne_wd, eqq_wd, m1]
    · simp [d_is_common_paper, b_is_common_paper, x_nil, x_cons, x_set, x_setT, x_par, x_ife, x_ret, x_retf, n_lst, n_call, x_newl, x_exp, bi_ok, bi_bad, of_some, lk_dat, lks_nil, lks_cons, do_nil, do_cons, op_some, ob_some, b_add, b_sub, c_lt, c_le, c_gt, c_ge, c_eqS, c_neS, c_eqI, c_neI, c_eqB, c_neB, c_eqT, c_neT, c_eqL, c_neL, c_isB, c_isntB, c_is, c_isnt, eq_int, eq_bl, eq_pair, t_bl, t_int, t_lst, t_tup, l_tup, l_lst, l_scr, l_abs, l_int, l_intB, l_max, l_min, l_tt, l_tl, l_all, l_any, l_repr, s_tup, s_lst, s_scr, i_tt, i_ii, i_ib, i_it, ix0, ix1, ix2, v_var, v_cst, v_glo, v_tup, v_lst, v_lsts, d_nil, d_star, d_one, l_max1, l_min1, l_sum, v_bin, v_neg, v_nt, v_cmp, v_chain, v_and, v_or, v_ite, v_sub, v_rev, v_call, v_blt, v_isi, v_comp, evs, evAnd, evOr, evIfs, evT, evTAnd, evTOr, parS, bi_asc, tgD, tgDs, wipeS, slotsOf, slotsOfs, szk, r1, r2, ec, allD, tgD, tgDs, nen, g0, s_lc g0, con_O, ne1, g1]
theorem jv_words {g l r f t : List Rat} (h : Ws g l r f t) : Jv A B (.tup [wd g, wd l, wd r, wd f, wd t]) := ⟨jd A B g l r f t, fun lv m => icp_judge hA hB lv m h, fun lv m => law_judge hA hB lv m h⟩
end
end K24

set_option Elab.async false
set_option linter.all false
set_option maxRecDepth 100000
set_option maxHeartbeats 2000000
set_option exponentiation.threshold 10000
namespace K24
open PySem EV POLY
/-! ### values near a paper -/
theorem slc_hiT {pre post : List D} : slcD (.tup (pre ++ post)) none (some (pre.length : Int)) = some (.tup pre) := by
  show some (D.tup (cutD (pre ++ post) none (some (pre.length : Int)))) = _
  have e : cutD (pre ++ post) none (some (pre.length : Int)) = pre := by
    unfold cutD endIx
    dsimp only
    rw [if_neg (by omega)]
    simp
  rw [e]
theorem slc_loT {pre post : List D} {x : D} : slcD (.tup (pre ++ x :: post)) (some ((pre.length : Int) + 1)) none = some (.tup post) := by
  show some (D.tup (cutD (pre ++ x :: post) (some ((pre.length : Int) + 1)) none)) = _
  have e : cutD (pre ++ x :: post) (some ((pre.length : Int) + 1)) none = post := by
    unfold cutD endIx
    dsimp only
    rw [if_neg (by omega)]
    have e1 : ((pre.length : Int) + 1).toNat = pre.length + 1 := by omega
    rw [e1]
    have e0 : (pre ++ x :: post).length = pre.length + (post.length + 1) := by simp
    have e2 : min (pre.length + 1) (pre ++ x :: post).length = pre.length + 1 := by rw [e0]; omega
    have e3 : (pre ++ x :: post).drop (pre.length + 1) = post := by
      rw [List.drop_append, List.drop_of_length_le (by omega)]
      have e4 : pre.length + 1 - pre.length = 1 := by omega
      rw [e4]
      rfl
    rw [e2, e3]
    exact List.take_of_length_le (by rw [e0]; omega)
  rw [e]
theorem v_slcL (W : Wd) (C : Cal) (s : Slots) (m : Sto) (a lo : Ex) : ev W C (.slc .lo a [lo]) s m = (ev W C a s m).bind fun x m => (ev W C lo s m).bind fun u m => match u with
    | .dat (.int i) => match look m x with
      | some d => (R.ofO (slcD d (some i) none) m).bind fun r m => .ok (.dat r) m
      | none => .bad
    | _ => .bad := rfl
theorem get_mid {pre post : List D} {x : D} : subD (.tup (pre ++ x :: post)) (.int (pre.length : Nat)) = some x := by
  show (ixD (pre ++ x :: post).length (pre.length : Nat)).bind _ = _
  rw [ix_lit (by simp)]
  simp
theorem n_add (W : Wd) (C : Cal) (a b : Ex) (s : Slots) (m : Sto) : evN W C (.bin .Add a b) s m = (ev W C a s m).bind fun x m => (ev W C b s m).bind fun y m => match look m x, look m y with
    | some (.lst xs), some (.lst ys) => if szOk (xs.length + ys.length) then .ok (xs ++ ys) m else .bad
    | _, _ => .bad := rfl
def q13 : Rat := ⟨1, 3, by decide, by decide⟩
def q12 : Rat := ⟨1, 2, by decide, by decide⟩
theorem cd_2 : Cd 3 3 [0, 1] := (Cd.mono1 (c := 1) nb_one (by decide) 1).mono (by decide) (by decide)
theorem cd_3 : Cd 3 3 [-2, 0, q13] := ⟨fun _ => by simp; decide, by decide, 3, by decide, by decide, fun n => by
  match n with
  | 0 => exact ⟨-6, by decide, by decide +kernel⟩
  | 1 => exact ⟨0, by decide, by decide +kernel⟩
  | 2 => exact ⟨1, by decide, by decide +kernel⟩
  | k + 3 => exact ⟨0, by decide, (zdiv _).symm⟩⟩
theorem cd_4 : Cd 3 3 [0, q12] := (Cd.mono1 (c := q12) (j := 2) ⟨1, 2, by decide, by decide, by decide, by decide +kernel⟩ (by decide) 1).mono (by decide) (by decide)
theorem near_turn (lv B : Nat) (A Bw x : List Rat) (pre post : List (List Rat)) (d4 d5 d6 d7 d8 d9 d10 d11 : D) (x14 x15 : Option Vl) (mm : Sto) (vs : List D) (hm : Dm [.lst vs] mm B) (hB : B + 2 ≤ 2 ^ 60) (hx : Cd 1400 30 x) (h5 : (pre ++ x :: post).length = 5) (hv : vs.length ≤ 100)
    (hJ1 : ∀ w, Cd 3 3 w → Jv A Bw (.tup (pre.map wd ++ wd (addW x w) :: post.map wd))) (hJ2 : ∀ d, It d false → Jv A Bw (.tup (pre.map wd ++ d :: post.map wd))) :
    ∃ v1 v2 x14' x15' m', exs W0 (callF W0 (lv + 4)) 1 [.set (.nm 14) (.call 34 [(.sub (.var 3) (.var 13)), (.call 28 [(.var 0), (.lst [(.tup [(.tup [(.cst (.int 1)), (.cst (.int 1))])]), (.tup [(.tup [(.cst (.int 0)), (.cst (.int 1))]), (.tup [(.cst (.int 1)), (.cst (.int 2))])])])])]),
  .app 12 (.bin .Add (.bin .Add (.slc .hi (.var 3) [(.var 13)]) (.tup [(.var 14)])) (.slc .lo (.var 3) [(.bin .Add (.var 13) (.cst (.int 1)))])),
  .set (.nm 15) (.call 28 [(.var 0), (.lst [(.cst .non), (.cst (.int 0)), (.blt .list [(.sub (.var 3) (.var 13))]), (.bin .Add (.sub (.var 3) (.var 13)) (.tup [(.tup [(.cst (.int 0)), (.cst (.int 1))])])), (.tup [(.tup [(.cst (.int 2)), (.cst (.int 2))])]), (.cst (.str "word")), (.tup [(.cst (.bl true))])])]),
  .app 12 (.bin .Add (.bin .Add (.slc .hi (.var 3) [(.var 13)]) (.tup [(.var 15)])) (.slc .lo (.var 3) [(.bin .Add (.var 13) (.cst (.int 1)))]))] [some (.loc 0), some (.dat (wd A)), some (.dat (wd Bw)), some (.dat (.tup ((pre ++ x :: post).map wd))), some (.dat d4), some (.dat d5), some (.dat d6), some (.dat d7), some (.dat d8), some (.dat d9), some (.dat d10), some (.dat d11), some (.loc 1), some (.dat (.int (pre.length : Nat))), x14, x15, none] mm = .ok (.nx [some (.loc 0), some (.dat (wd A)), some (.dat (wd Bw)), some (.dat (.tup ((pre ++ x :: post).map wd))), some (.dat d4), some (.dat d5), some (.dat d6), some (.dat d7), some (.dat d8), some (.dat d9), some (.dat d10), some (.dat d11), some (.loc 1), some (.dat (.int (pre.length : Nat))), x14', x15', none]) m' ∧ Jv A Bw v1 ∧ Jv A Bw v2 ∧ Dm [.lst (vs ++ [v1, v2])] m' (B + 2) := by
  obtain ⟨i1, e1, m1, p1, g1, hm1⟩ := pick_ok (lv + 2) B mm [.tup [.tup [.int 1, .int 1]], .tup [.tup [.int 0, .int 1], .tup [.int 1, .int 2]]] hm (by omega) (by decide) (by decide)
  obtain ⟨w, rfl, hw⟩ : ∃ w : List Rat, e1 = wd w ∧ Cd 3 3 w := by
    have mem := List.mem_of_getElem? g1
    simp at mem
    rcases mem with rfl | rfl
    · exact ⟨[1], rfl, cd_one.mono (by decide) (by decide)⟩
    · exact ⟨[0, q12], rfl, cd_4⟩
  have c1 := plusC_ok (lv + 1) _ _ _ _ m1 x w hx hw (by decide) (by decide) (by decide) (by decide)
  obtain ⟨a1, b1, k1, rfl, hd1⟩ := hm1
  have hsz : pre.length + post.length = 4 := by simp at h5; omega
  have emap : (pre ++ x :: post).map wd = pre.map wd ++ wd x :: post.map wd := by simp
  have g2 : subD (.tup (pre.map wd ++ wd x :: post.map wd)) (.int (pre.length : Int)) = some (wd x) := by
    have := get_mid (pre := pre.map wd) (post := post.map wd) (x := wd x)
    rw [List.length_map] at this
    exact this
  have s1 : slcD (.tup (pre.map wd ++ wd x :: post.map wd)) none (some (pre.length : Int)) = some (.tup (pre.map wd)) := by
    have := slc_hiT (pre := pre.map wd) (post := wd x :: post.map wd)
    rw [List.length_map] at this
    exact this
  have s2 : slcD (.tup (pre.map wd ++ wd x :: post.map wd)) (some ((pre.length : Int) + 1)) none = some (.tup (post.map wd)) := by
    have := slc_loT (pre := pre.map wd) (post := post.map wd) (x := wd x)
    rw [List.length_map] at this
    exact this
  have ca : ∀ z : D, binD .Add (.tup (pre.map wd)) (.tup [z]) = some (.tup (pre.map wd ++ [z])) := fun z => a_tup (by simp; omega)
  have cb : ∀ z : D, binD .Add (.tup (pre.map wd ++ [z])) (.tup (post.map wd)) = some (.tup (pre.map wd ++ z :: post.map wd)) := fun z => by
    rw [a_tup (by simp; omega)]
    simp
  have hz : ∀ n, n ≤ 200 → szOk n = true := fun n h => szk (by omega)
  have lx : bltD .list [wd x] = some (.lst (x.map fr)) := rfl
  have lz : binD .Add (wd x) (.tup [.tup [.int 0, .int 1]]) = some (wd (x ++ [0])) := by
    have := a_wd (p := x) (j := 1) (by have := hx.ln; omega)
    exact this
  have hmv : Dm [.lst (vs ++ [.tup (pre.map wd ++ wd (addW x w) :: post.map wd)])] (dmr [.lst (vs ++ [.tup (pre.map wd ++ wd (addW x w) :: post.map wd)])] a1 b1 k1) (B + 1) := ⟨a1, b1, k1, rfl, hd1⟩
  obtain ⟨i2, d, m2, p2, gg2, hm2⟩ := pick_ok (lv + 2) (B + 1) _ [.non, .int 0, .lst (x.map fr), wd (x ++ [0]), .tup [.tup [.int 2, .int 2]], .str "word", .tup [.bl true]] hmv (by omega) (by simp) (by simp)
  have hd : It d false := by
    have mem := List.mem_of_getElem? gg2
    simp at mem
    rcases mem with rfl | rfl | rfl | rfl | rfl | rfl | rfl
    · exact it_not (by simp [isiD, tyName])
    · exact it_not (by simp [isiD, tyName])
    · exact it_not (by simp [isiD, tyName])
    · exact it_late hx (by decide) (by decide) (by decide)
    · exact it_bad nu_22
    · exact it_not (by simp [isiD, tyName])
    · exact it_bad nu_true
  obtain ⟨a2, b2, k2, rfl, hd2⟩ := hm2
  refine ⟨.tup (pre.map wd ++ wd (addW x w) :: post.map wd), .tup (pre.map wd ++ d :: post.map wd), some (.dat (wd (addW x w))), some (.dat d), dmr [.lst (vs ++ [.tup (pre.map wd ++ wd (addW x w) :: post.map wd), .tup (pre.map wd ++ d :: post.map wd)])] a2 b2 k2, ?_, hJ1 w hw, hJ2 d hd, a2, b2, k2, rfl, hd2⟩
  rw [emap]
  refine st1 (s' := [some (.loc 0), some (.dat (wd A)), some (.dat (wd Bw)), some (.dat (.tup (pre.map wd ++ wd x :: post.map wd))), some (.dat d4), some (.dat d5), some (.dat d6), some (.dat d7), some (.dat d8), some (.dat d9), some (.dat d10), some (.dat d11), some (.loc 1), some (.dat (.int (pre.length : Nat))), some (.dat (wd (addW x w))), x15, none]) (m' := dmr [.lst vs] a1 b1 k1) (by simp [x_nil, x_cons, x_set, x_setT, x_par, x_ife, x_ret, x_retf, n_lst, n_call, x_newl, x_exp, bi_ok, bi_bad, of_some, lk_dat, lks_nil, lks_cons, do_nil, do_cons, op_some, ob_some, b_add, b_sub, c_lt, c_le, c_gt, c_ge, c_eqS, c_neS, c_eqI, c_neI, c_eqB, c_neB, c_eqT, c_neT, c_eqL, c_neL, c_isB, c_isntB, c_is, c_isnt, eq_int, eq_bl, eq_pair, t_bl, t_int, t_lst, t_tup, l_tup, l_lst, l_scr, l_abs, l_int, l_intB, l_max, l_min, l_tt, l_tl, l_all, l_any, l_repr, s_tup, s_lst, s_scr, i_tt, i_ii, i_ib, i_it, ix0, ix1, ix2, v_var, v_cst, v_glo, v_tup, v_lst, v_lsts, d_nil, d_star, d_one, l_max1, l_min1, l_sum, v_bin, v_neg, v_nt, v_cmp, v_chain, v_and, v_or, v_ite, v_sub, v_rev, v_call, v_blt, v_isi, v_comp, evs, evAnd, evOr, evIfs, evT, evTAnd, evTOr, parS, bi_asc, tgD, tgDs, wipeS, slotsOf, slotsOfs, szk, g2, p1, c1]) ?_
  refine st1 (s' := [some (.loc 0), some (.dat (wd A)), some (.dat (wd Bw)), some (.dat (.tup (pre.map wd ++ wd x :: post.map wd))), some (.dat d4), some (.dat d5), some (.dat d6), some (.dat d7), some (.dat d8), some (.dat d9), some (.dat d10), some (.dat d11), some (.loc 1), some (.dat (.int (pre.length : Nat))), some (.dat (wd (addW x w))), x15, none]) (m' := dmr [.lst (vs ++ [.tup (pre.map wd ++ wd (addW x w) :: post.map wd)])] a1 b1 k1) (by
    have la : locAt [some (.loc 0), some (.dat (wd A)), some (.dat (wd Bw)), some (.dat (.tup (pre.map wd ++ wd x :: post.map wd))), some (.dat d4), some (.dat d5), some (.dat d6), some (.dat d7), some (.dat d8), some (.dat d9), some (.dat d10), some (.dat d11), some (.loc 1), some (.dat (.int (pre.length : Nat))), some (.dat (wd (addW x w))), x15, none] 12 = some 1 := rfl
    have i1 : isLs (dmr [.lst vs] a1 b1 k1) 1 = true := rfl
    have i2 : (dmr [.lst vs] a1 b1 k1)[1]? = some (.lst vs) := rfl
    have i3 : ∀ z, (dmr [.lst vs] a1 b1 k1).set 1 z = dmr [z] a1 b1 k1 := fun z => rfl
    simp [x_nil, x_cons, x_set, x_setT, x_par, x_ife, x_ret, x_retf, n_lst, n_call, x_newl, x_exp, bi_ok, bi_bad, of_some, lk_dat, lks_nil, lks_cons, do_nil, do_cons, op_some, ob_some, b_add, b_sub, c_lt, c_le, c_gt, c_ge, c_eqS, c_neS, c_eqI, c_neI, c_eqB, c_neB, c_eqT, c_neT, c_eqL, c_neL, c_isB, c_isntB, c_is, c_isnt, eq_int, eq_bl, eq_pair, t_bl, t_int, t_lst, t_tup, l_tup, l_lst, l_scr, l_abs, l_int, l_intB, l_max, l_min, l_tt, l_tl, l_all, l_any, l_repr, s_tup, s_lst, s_scr, i_tt, i_ii, i_ib, i_it, ix0, ix1, ix2, v_var, v_cst, v_glo, v_tup, v_lst, v_lsts, d_nil, d_star, d_one, l_max1, l_min1, l_sum, v_bin, v_neg, v_nt, v_cmp, v_chain, v_and, v_or, v_ite, v_sub, v_rev, v_call, v_blt, v_isi, v_comp, evs, evAnd, evOr, evIfs, evT, evTAnd, evTOr, parS, bi_asc, tgD, tgDs, wipeS, slotsOf, slotsOfs, szk, x_app, la, i1, i2, i3, v_slcH, v_slcL, s1, s2, ca, cb, hz, hv, show vs.length + 1 ≤ 200 by omega]) ?_
  refine st1 (s' := [some (.loc 0), some (.dat (wd A)), some (.dat (wd Bw)), some (.dat (.tup (pre.map wd ++ wd x :: post.map wd))), some (.dat d4), some (.dat d5), some (.dat d6), some (.dat d7), some (.dat d8), some (.dat d9), some (.dat d10), some (.dat d11), some (.loc 1), some (.dat (.int (pre.length : Nat))), some (.dat (wd (addW x w))), some (.dat d), none]) (m' := dmr [.lst (vs ++ [.tup (pre.map wd ++ wd (addW x w) :: post.map wd)])] a2 b2 k2) (by simp [x_nil, x_cons, x_set, x_setT, x_par, x_ife, x_ret, x_retf, n_lst, n_call, x_newl, x_exp, bi_ok, bi_bad, of_some, lk_dat, lks_nil, lks_cons, do_nil, do_cons, op_some, ob_some, b_add, b_sub, c_lt, c_le, c_gt, c_ge, c_eqS, c_neS, c_eqI, c_neI, c_eqB, c_neB, c_eqT, c_neT, c_eqL, c_neL, c_isB, c_isntB, c_is, c_isnt, eq_int, eq_bl, eq_pair, t_bl, t_int, t_lst, t_tup, l_tup, l_lst, l_scr, l_abs, l_int, l_intB, l_max, l_min, l_tt, l_tl, l_all, l_any, l_repr, s_tup, s_lst, s_scr, i_tt, i_ii, i_ib, i_it, ix0, ix1, ix2, v_var, v_cst, v_glo, v_tup, v_lst, v_lsts, d_nil, d_star, d_one, l_max1, l_min1, l_sum, v_bin, v_neg, v_nt, v_cmp, v_chain, v_and, v_or, v_ite, v_sub, v_rev, v_call, v_blt, v_isi, v_comp, evs, evAnd, evOr, evIfs, evT, evTAnd, evTOr, parS, bi_asc, tgD, tgDs, wipeS, slotsOf, slotsOfs, szk, g2, lx, lz, p2]) ?_
  refine st1 (s' := [some (.loc 0), some (.dat (wd A)), some (.dat (wd Bw)), some (.dat (.tup (pre.map wd ++ wd x :: post.map wd))), some (.dat d4), some (.dat d5), some (.dat d6), some (.dat d7), some (.dat d8), some (.dat d9), some (.dat d10), some (.dat d11), some (.loc 1), some (.dat (.int (pre.length : Nat))), some (.dat (wd (addW x w))), some (.dat d), none]) (m' := dmr [.lst (vs ++ [.tup (pre.map wd ++ wd (addW x w) :: post.map wd), .tup (pre.map wd ++ d :: post.map wd)])] a2 b2 k2) (by
    have la : locAt [some (.loc 0), some (.dat (wd A)), some (.dat (wd Bw)), some (.dat (.tup (pre.map wd ++ wd x :: post.map wd))), some (.dat d4), some (.dat d5), some (.dat d6), some (.dat d7), some (.dat d8), some (.dat d9), some (.dat d10), some (.dat d11), some (.loc 1), some (.dat (.int (pre.length : Nat))), some (.dat (wd (addW x w))), some (.dat d), none] 12 = some 1 := rfl
    have i1 : isLs (dmr [.lst (vs ++ [.tup (pre.map wd ++ wd (addW x w) :: post.map wd)])] a2 b2 k2) 1 = true := rfl
    have i2 : (dmr [.lst (vs ++ [.tup (pre.map wd ++ wd (addW x w) :: post.map wd)])] a2 b2 k2)[1]? = some (.lst (vs ++ [.tup (pre.map wd ++ wd (addW x w) :: post.map wd)])) := rfl
    have i3 : ∀ z, (dmr [.lst (vs ++ [.tup (pre.map wd ++ wd (addW x w) :: post.map wd)])] a2 b2 k2).set 1 z = dmr [z] a2 b2 k2 := fun z => rfl
    simp [x_nil, x_cons, x_set, x_setT, x_par, x_ife, x_ret, x_retf, n_lst, n_call, x_newl, x_exp, bi_ok, bi_bad, of_some, lk_dat, lks_nil, lks_cons, do_nil, do_cons, op_some, ob_some, b_add, b_sub, c_lt, c_le, c_gt, c_ge, c_eqS, c_neS, c_eqI, c_neI, c_eqB, c_neB, c_eqT, c_neT, c_eqL, c_neL, c_isB, c_isntB, c_is, c_isnt, eq_int, eq_bl, eq_pair, t_bl, t_int, t_lst, t_tup, l_tup, l_lst, l_scr, l_abs, l_int, l_intB, l_max, l_min, l_tt, l_tl, l_all, l_any, l_repr, s_tup, s_lst, s_scr, i_tt, i_ii, i_ib, i_it, ix0, ix1, ix2, v_var, v_cst, v_glo, v_tup, v_lst, v_lsts, d_nil, d_star, d_one, l_max1, l_min1, l_sum, v_bin, v_neg, v_nt, v_cmp, v_chain, v_and, v_or, v_ite, v_sub, v_rev, v_call, v_blt, v_isi, v_comp, evs, evAnd, evOr, evIfs, evT, evTAnd, evTOr, parS, bi_asc, tgD, tgDs, wipeS, slotsOf, slotsOfs, szk, x_app, la, i1, i2, i3, v_slcH, v_slcL, s1, s2, ca, cb, hz, hv, show vs.length + 1 + 1 ≤ 200 by omega]) ?_
  rfl
end K24

set_option Elab.async false
set_option linter.all false
set_option maxRecDepth 100000
set_option maxHeartbeats 4000000
set_option exponentiation.threshold 10000
namespace K24
open PySem EV POLY
theorem jv_oddL {A B : List Rat} (hA : Cd 20 20 A) (hB : Cd 20 20 B) (pre post : List (List Rat)) (d : D) (hp : ∀ p ∈ pre ++ post, Cd 1400 30 p) (hl : pre.length + post.length = 4) (hd : It d false) : Jv A B (.tup (pre.map wd ++ d :: post.map wd)) := by
  have h := jv_odd hA hB (l := pre.map (fun p => (wd p, true)) ++ (d, false) :: post.map (fun p => (wd p, true))) (by simp; omega) (fun x hx => by
    rcases List.mem_append.mp hx with h | h
    · obtain ⟨p, hp', rfl⟩ := List.mem_map.mp h
      exact it_word (hp p (List.mem_append.mpr (.inl hp'))) (by decide) (by decide)
    · rcases List.mem_cons.mp h with rfl | h
      · exact hd
      · obtain ⟨p, hp', rfl⟩ := List.mem_map.mp h
        exact it_word (hp p (List.mem_append.mpr (.inr hp'))) (by decide) (by decide)) (by simp)
  have e : (pre.map (fun p => (wd p, true)) ++ (d, false) :: post.map (fun p => (wd p, true))).map Prod.fst = pre.map wd ++ d :: post.map wd := by
    rw [List.map_append, List.map_map, List.map_cons, List.map_map]
    rfl
  rw [e] at h
  exact h
structure W5 (w0 w1 w2 w3 w4 : List Rat) : Prop where
  h0 : Cd 1400 30 w0
  h1 : Cd 1400 30 w1
  h2 : Cd 1400 30 w2
  h3 : Cd 800 30 w3
  h4 : Cd 800 30 w4
theorem W5.ws {w0 w1 w2 w3 w4 : List Rat} (h : W5 w0 w1 w2 w3 w4) : Ws w0 w1 w2 w3 w4 := ⟨h.h0.mono (by decide) (by decide), h.h1.mono (by decide) (by decide), h.h2.mono (by decide) (by decide), h.h3.mono (by decide) (by decide), h.h4.mono (by decide) (by decide)⟩
theorem nb2 : Nb 2 2 := ⟨2, 1, by decide, by decide, by decide, by decide +kernel⟩
theorem near_loop (lv B : Nat) (A Bw w0 w1 w2 w3 w4 : List Rat) (d4 d5 d6 d7 d8 d9 d10 d11 : D) (mm : Sto) (vs0 : List D) (hA : Cd 20 20 A) (hBw : Cd 20 20 Bw) (h : W5 w0 w1 w2 w3 w4) (hm : Dm [.lst vs0] mm B) (hB : B + 100 ≤ 2 ^ 60) (hv : vs0.length ≤ 20) (hj : ∀ v ∈ vs0, Jv A Bw v) :
    ∃ vs x13 x14 x15 m', exS W0 (callF W0 (lv + 4)) 1 (.fort (.nm 13) .rng1 [(.cst (.int 5))]
  [.set (.nm 14) (.call 34 [(.sub (.var 3) (.var 13)), (.call 28 [(.var 0), (.lst [(.tup [(.tup [(.cst (.int 1)), (.cst (.int 1))])]), (.tup [(.tup [(.cst (.int 0)), (.cst (.int 1))]), (.tup [(.cst (.int 1)), (.cst (.int 2))])])])])]),
  .app 12 (.bin .Add (.bin .Add (.slc .hi (.var 3) [(.var 13)]) (.tup [(.var 14)])) (.slc .lo (.var 3) [(.bin .Add (.var 13) (.cst (.int 1)))])),
  .set (.nm 15) (.call 28 [(.var 0), (.lst [(.cst .non), (.cst (.int 0)), (.blt .list [(.sub (.var 3) (.var 13))]), (.bin .Add (.sub (.var 3) (.var 13)) (.tup [(.tup [(.cst (.int 0)), (.cst (.int 1))])])), (.tup [(.tup [(.cst (.int 2)), (.cst (.int 2))])]), (.cst (.str "word")), (.tup [(.cst (.bl true))])])]),
  .app 12 (.bin .Add (.bin .Add (.slc .hi (.var 3) [(.var 13)]) (.tup [(.var 15)])) (.slc .lo (.var 3) [(.bin .Add (.var 13) (.cst (.int 1)))]))]) [some (.loc 0), some (.dat (wd A)), some (.dat (wd Bw)), some (.dat (.tup [wd w0, wd w1, wd w2, wd w3, wd w4])), some (.dat d4), some (.dat d5), some (.dat d6), some (.dat d7), some (.dat d8), some (.dat d9), some (.dat d10), some (.dat d11), some (.loc 1), none, none, none, none] mm = .ok (.nx [some (.loc 0), some (.dat (wd A)), some (.dat (wd Bw)), some (.dat (.tup [wd w0, wd w1, wd w2, wd w3, wd w4])), some (.dat d4), some (.dat d5), some (.dat d6), some (.dat d7), some (.dat d8), some (.dat d9), some (.dat d10), some (.dat d11), some (.loc 1), x13, x14, x15, none]) m' ∧ (∀ v ∈ vs, Jv A Bw v) ∧ vs.length ≤ 40 ∧ Dm [.lst vs] m' (B + 100) := by
  have c0 := h.h0
  have c1 := h.h1
  have c2 := h.h2
  have c3 : Cd 1400 30 w3 := h.h3.mono (by decide) (by decide)
  have c4 : Cd 1400 30 w4 := h.h4.mono (by decide) (by decide)
  obtain ⟨s', m', e, _, vs, x13, x14, x15, rfl, hj', hl', hm'⟩ := for_ok (W := W0) (C := (callF W0 (lv + 4))) (b := 1) (tg := .nm 13) (ik := .rng1) (src := [(.cst (.int 5))]) (vs := [.dat (.int ((5 : Nat) : Int))]) (ds := [.int ((5 : Nat) : Int)]) (enc := fun i : Nat => D.int i)
    (body := [.set (.nm 14) (.call 34 [(.sub (.var 3) (.var 13)), (.call 28 [(.var 0), (.lst [(.tup [(.tup [(.cst (.int 1)), (.cst (.int 1))])]), (.tup [(.tup [(.cst (.int 0)), (.cst (.int 1))]), (.tup [(.cst (.int 1)), (.cst (.int 2))])])])])]),
  .app 12 (.bin .Add (.bin .Add (.slc .hi (.var 3) [(.var 13)]) (.tup [(.var 14)])) (.slc .lo (.var 3) [(.bin .Add (.var 13) (.cst (.int 1)))])),
  .set (.nm 15) (.call 28 [(.var 0), (.lst [(.cst .non), (.cst (.int 0)), (.blt .list [(.sub (.var 3) (.var 13))]), (.bin .Add (.sub (.var 3) (.var 13)) (.tup [(.tup [(.cst (.int 0)), (.cst (.int 1))])])), (.tup [(.tup [(.cst (.int 2)), (.cst (.int 2))])]), (.cst (.str "word")), (.tup [(.cst (.bl true))])])]),
  .app 12 (.bin .Add (.bin .Add (.slc .hi (.var 3) [(.var 13)]) (.tup [(.var 15)])) (.slc .lo (.var 3) [(.bin .Add (.var 13) (.cst (.int 1)))]))]) (s := [some (.loc 0), some (.dat (wd A)), some (.dat (wd Bw)), some (.dat (.tup [wd w0, wd w1, wd w2, wd w3, wd w4])), some (.dat d4), some (.dat d5), some (.dat d6), some (.dat d7), some (.dat d8), some (.dat d9), some (.dat d10), some (.dat d11), some (.loc 1), none, none, none, none]) (m := mm) (m1 := mm)
    (fun r s mm => (∀ y ∈ r, y < 5) ∧ ∃ vs x13 x14 x15, s = [some (.loc 0), some (.dat (wd A)), some (.dat (wd Bw)), some (.dat (.tup [wd w0, wd w1, wd w2, wd w3, wd w4])), some (.dat d4), some (.dat d5), some (.dat d6), some (.dat d7), some (.dat d8), some (.dat d9), some (.dat d10), some (.dat d11), some (.loc 1), x13, x14, x15, none] ∧ (∀ v ∈ vs, Jv A Bw v) ∧ vs.length + 2 * r.length ≤ 30 ∧ Dm [.lst vs] mm (B + vs.length)) (List.range 5) rfl rfl (wd_rng1 (by decide)) (by simp) ⟨by simp, vs0, none, none, none, rfl, hj, by simp; omega, hm.mono (by omega)⟩ (by
    rintro i r s mm ⟨hlt, vs, x13, x14, x15, rfl, hj, hl, hmm⟩
    rw [List.length_cons] at hl
    have hi := hlt i List.mem_cons_self
    have turn : ∃ v1 v2 x14' x15' m', exs W0 (callF W0 (lv + 4)) 1 [.set (.nm 14) (.call 34 [(.sub (.var 3) (.var 13)), (.call 28 [(.var 0), (.lst [(.tup [(.tup [(.cst (.int 1)), (.cst (.int 1))])]), (.tup [(.tup [(.cst (.int 0)), (.cst (.int 1))]), (.tup [(.cst (.int 1)), (.cst (.int 2))])])])])]),
  .app 12 (.bin .Add (.bin .Add (.slc .hi (.var 3) [(.var 13)]) (.tup [(.var 14)])) (.slc .lo (.var 3) [(.bin .Add (.var 13) (.cst (.int 1)))])),
  .set (.nm 15) (.call 28 [(.var 0), (.lst [(.cst .non), (.cst (.int 0)), (.blt .list [(.sub (.var 3) (.var 13))]), (.bin .Add (.sub (.var 3) (.var 13)) (.tup [(.tup [(.cst (.int 0)), (.cst (.int 1))])])), (.tup [(.tup [(.cst (.int 2)), (.cst (.int 2))])]), (.cst (.str "word")), (.tup [(.cst (.bl true))])])]),
  .app 12 (.bin .Add (.bin .Add (.slc .hi (.var 3) [(.var 13)]) (.tup [(.var 15)])) (.slc .lo (.var 3) [(.bin .Add (.var 13) (.cst (.int 1)))]))] [some (.loc 0), some (.dat (wd A)), some (.dat (wd Bw)), some (.dat (.tup [wd w0, wd w1, wd w2, wd w3, wd w4])), some (.dat d4), some (.dat d5), some (.dat d6), some (.dat d7), some (.dat d8), some (.dat d9), some (.dat d10), some (.dat d11), some (.loc 1), some (.dat (.int i)), x14, x15, none] mm = .ok (.nx [some (.loc 0), some (.dat (wd A)), some (.dat (wd Bw)), some (.dat (.tup [wd w0, wd w1, wd w2, wd w3, wd w4])), some (.dat d4), some (.dat d5), some (.dat d6), some (.dat d7), some (.dat d8), some (.dat d9), some (.dat d10), some (.dat d11), some (.loc 1), some (.dat (.int i)), x14', x15', none]) m' ∧ Jv A Bw v1 ∧ Jv A Bw v2 ∧ Dm [.lst (vs ++ [v1, v2])] m' (B + vs.length + 2) := by
      have hi5 : i = 0 ∨ i = 1 ∨ i = 2 ∨ i = 3 ∨ i = 4 := by omega
      rcases hi5 with rfl | rfl | rfl | rfl | rfl
      · exact near_turn lv (B + vs.length) A Bw w0 [] [w1, w2, w3, w4] d4 d5 d6 d7 d8 d9 d10 d11 x14 x15 mm vs hmm (by omega) c0 rfl (by omega) (fun w hw => jv_words hA hBw ⟨(h.h0.add hw).mono (by decide) (by decide), h.ws.l, h.ws.r, h.ws.f, h.ws.t⟩) (fun d hd => jv_oddL hA hBw [] [w1, w2, w3, w4] d (by intro p hp; simp at hp; rcases hp with rfl | rfl | rfl | rfl <;> assumption) rfl hd)
      · exact near_turn lv (B + vs.length) A Bw w1 [w0] [w2, w3, w4] d4 d5 d6 d7 d8 d9 d10 d11 x14 x15 mm vs hmm (by omega) c1 rfl (by omega) (fun w hw => jv_words hA hBw ⟨h.ws.g, (h.h1.add hw).mono (by decide) (by decide), h.ws.r, h.ws.f, h.ws.t⟩) (fun d hd => jv_oddL hA hBw [w0] [w2, w3, w4] d (by intro p hp; simp at hp; rcases hp with rfl | rfl | rfl | rfl <;> assumption) rfl hd)
      · exact near_turn lv (B + vs.length) A Bw w2 [w0, w1] [w3, w4] d4 d5 d6 d7 d8 d9 d10 d11 x14 x15 mm vs hmm (by omega) c2 rfl (by omega) (fun w hw => jv_words hA hBw ⟨h.ws.g, h.ws.l, (h.h2.add hw).mono (by decide) (by decide), h.ws.f, h.ws.t⟩) (fun d hd => jv_oddL hA hBw [w0, w1] [w3, w4] d (by intro p hp; simp at hp; rcases hp with rfl | rfl | rfl | rfl <;> assumption) rfl hd)
      · exact near_turn lv (B + vs.length) A Bw w3 [w0, w1, w2] [w4] d4 d5 d6 d7 d8 d9 d10 d11 x14 x15 mm vs hmm (by omega) c3 rfl (by omega) (fun w hw => jv_words hA hBw ⟨h.ws.g, h.ws.l, h.ws.r, (h.h3.add hw).mono (by decide) (by decide), h.ws.t⟩) (fun d hd => jv_oddL hA hBw [w0, w1, w2] [w4] d (by intro p hp; simp at hp; rcases hp with rfl | rfl | rfl | rfl <;> assumption) rfl hd)
      · exact near_turn lv (B + vs.length) A Bw w4 [w0, w1, w2, w3] [] d4 d5 d6 d7 d8 d9 d10 d11 x14 x15 mm vs hmm (by omega) c4 rfl (by omega) (fun w hw => jv_words hA hBw ⟨h.ws.g, h.ws.l, h.ws.r, h.ws.f, (h.h4.add hw).mono (by decide) (by decide)⟩) (fun d hd => jv_oddL hA hBw [w0, w1, w2, w3] [] d (by intro p hp; simp at hp; rcases hp with rfl | rfl | rfl | rfl <;> assumption) rfl hd)
    obtain ⟨v1, v2, x14', x15', m1, e1, j1, j2, hm1⟩ := turn
    refine ⟨_, m1, ?_, fun y hy => hlt y (List.mem_cons_of_mem _ hy), vs ++ [v1, v2], some (.dat (.int i)), x14', x15', rfl, fun v hv => ?_, by simp; omega, hm1.mono (by simp; omega)⟩
    · unfold forStep
      exact e1
    · rcases List.mem_append.mp hv with h | h
      · exact hj v h
      · simp at h
        rcases h with rfl | rfl
        · exact j1
        · exact j2)
  exact ⟨vs, x13, x14, x15, m', e, hj', by simp at hl'; omega, hm'.mono (by simp at hl'; omega)⟩
theorem ix3 {n : Nat} (h : 3 < n) : ixD n 3 = some 3 := ix_lit (k := 3) h
theorem near_ok (lv B : Nat) (m : Sto) (A Bw w0 w1 w2 w3 w4 : List Rat) (hA : Cd 20 20 A) (hBw : Cd 20 20 Bw) (h : W5 w0 w1 w2 w3 w4) (hm : Dm [] m B) (hB : B + 200 ≤ 2 ^ 60) :
    ∃ vs m', callF W0 (lv + 5) 45 [.loc 0, .dat (wd A), .dat (wd Bw), .dat (.tup [wd w0, wd w1, wd w2, wd w3, wd w4])] m = .ok (.vl (.dat (.lst vs))) m' ∧ (∀ v ∈ vs, Jv A Bw v) ∧ vs.length ≤ 40 ∧ Dm [] m' (B + 200) := by
  obtain ⟨a, b, c, rfl, hdb⟩ := hm
  have hm0 : Dm [.nil] (dmr [.nil] a b c) B := ⟨a, b, c, rfl, hdb⟩
  obtain ⟨i1, e1, m1, p1, g1, hm1⟩ := pick_ok (lv + 2) B (dmr [.nil] a b c) [.tup [.tup [.int 1, .int 1]], .tup [.tup [.int 0, .int 1], .tup [.int 1, .int 1]], .tup [.tup [.int (-2), .int 1], .tup [.int 0, .int 1], .tup [.int 1, .int 3]]] hm0 (by omega) (by decide) (by decide)
  obtain ⟨w, rfl, hw⟩ : ∃ w : List Rat, e1 = wd w ∧ Cd 3 3 w := by
    have mem := List.mem_of_getElem? g1
    simp at mem
    rcases mem with rfl | rfl | rfl
    · exact ⟨[1], rfl, cd_one.mono (by decide) (by decide)⟩
    · exact ⟨[0, 1], rfl, cd_2⟩
    · exact ⟨[-2, 0, q13], rfl, cd_3⟩
  obtain ⟨a1, b1, k1, rfl, hd1⟩ := hm1
  have u1 := timesC_ok (lv + 1) _ _ _ _ (dmr [.nil] a1 b1 k1) w w2 hw h.h2 (by decide) (by decide)
  have u2 := timesC_ok (lv + 1) _ _ _ _ (dmr [.nil] a1 b1 k1) w w1 hw h.h1 (by decide) (by decide)
  have u3 := plusC_ok (lv + 1) _ _ _ _ (dmr [.nil] a1 b1 k1) w3 (mulW w w2) h.h3 (hw.mul h.h2) (by decide) (by decide) (by decide) (by decide)
  have u4 := law_minus_ok lv _ _ _ _ (dmr [.nil] a1 b1 k1) w4 (mulW w w1) h.h4 (hw.mul h.h1) (by decide) (by decide) (by decide) (by decide)
  have sc : ∀ p k, Cd k 30 p → k ≤ 4400 → callF W0 (lv + 4) 35 [.dat (.tup [.int 2, .int 1]), .dat (wd p)] (dmr [.nil] a1 b1 k1) = .ok (.vl (.dat (wd (scW 2 p)))) (dmr [.nil] a1 b1 k1) := fun p k hp hk => law_sc_ok (lv + 1) k 30 2 _ 2 p nb2 hp (by decide) hk (by decide)
  have et : evC W0 (callF W0 (lv + 4)) (.nm 16) .seq [(.var 3)] [] (.call 35 [(.tup [(.cst (.int 2)), (.cst (.int 1))]), (.var 16)]) [some (.loc 0), some (.dat (wd A)), some (.dat (wd Bw)), some (.dat (.tup [wd w0, wd w1, wd w2, wd w3, wd w4])), some (.dat (wd w)), some (.dat (wd w0)), some (.dat (wd w1)), some (.dat (wd w2)), some (.dat (wd w3)), some (.dat (wd w4)), some (.dat (.tup [wd w0, wd w1, wd w2, wd (addW w3 (mulW w w2)), wd (subW w4 (mulW w w1))])), none, none, none, none, none, none] (dmr [.nil] a1 b1 k1) = .ok [wd (scW 2 w0), wd (scW 2 w1), wd (scW 2 w2), wd (scW 2 w3), wd (scW 2 w4)] (dmr [.nil] a1 b1 k1) := by
    refine evC_enc (W := W0) (C := (callF W0 (lv + 4))) (s := [some (.loc 0), some (.dat (wd A)), some (.dat (wd Bw)), some (.dat (.tup [wd w0, wd w1, wd w2, wd w3, wd w4])), some (.dat (wd w)), some (.dat (wd w0)), some (.dat (wd w1)), some (.dat (wd w2)), some (.dat (wd w3)), some (.dat (wd w4)), some (.dat (.tup [wd w0, wd w1, wd w2, wd (addW w3 (mulW w w2)), wd (subW w4 (mulW w w1))])), none, none, none, none, none, none]) (src := [(.var 3)]) (ik := .seq) (ds := [(.tup [wd w0, wd w1, wd w2, wd w3, wd w4])]) (m := dmr [.nil] a1 b1 k1) (vs := [.dat (.tup [wd w0, wd w1, wd w2, wd w3, wd w4])]) (m1 := dmr [.nil] a1 b1 k1) (enc := wd) (fun p => wd (scW 2 p)) [w0, w1, w2, w3, w4] (by rfl) (by rfl) rfl (by simp) (fun x hx => ?_)
    refine turn0 rfl ?_
    simp at hx
    rcases hx with rfl | rfl | rfl | rfl | rfl
    · simp [x_nil, x_cons, x_set, x_setT, x_par, x_ife, x_ret, x_retf, n_lst, n_call, x_newl, x_exp, bi_ok, bi_bad, of_some, lk_dat, lks_nil, lks_cons, do_nil, do_cons, op_some, ob_some, b_add, b_sub, c_lt, c_le, c_gt, c_ge, c_eqS, c_neS, c_eqI, c_neI, c_eqB, c_neB, c_eqT, c_neT, c_eqL, c_neL, c_isB, c_isntB, c_is, c_isnt, eq_int, eq_bl, eq_pair, t_bl, t_int, t_lst, t_tup, l_tup, l_lst, l_scr, l_abs, l_int, l_intB, l_max, l_min, l_tt, l_tl, l_all, l_any, l_repr, s_tup, s_lst, s_scr, i_tt, i_ii, i_ib, i_it, ix0, ix1, ix2, v_var, v_cst, v_glo, v_tup, v_lst, v_lsts, d_nil, d_star, d_one, l_max1, l_min1, l_sum, v_bin, v_neg, v_nt, v_cmp, v_chain, v_and, v_or, v_ite, v_sub, v_rev, v_call, v_blt, v_isi, v_comp, evs, evAnd, evOr, evIfs, evT, evTAnd, evTOr, parS, bi_asc, tgD, tgDs, wipeS, slotsOf, slotsOfs, szk, wipeS, slotsOf, sc _ _ h.h0 (by decide)]
    · simp [x_nil, x_cons, x_set, x_setT, x_par, x_ife, x_ret, x_retf, n_lst, n_call, x_newl, x_exp, bi_ok, bi_bad, of_some, lk_dat, lks_nil, lks_cons, do_nil, do_cons, op_some, ob_some, b_add, b_sub, c_lt, c_le, c_gt, c_ge, c_eqS, c_neS, c_eqI, c_neI, c_eqB, c_neB, c_eqT, c_neT, c_eqL, c_neL, c_isB, c_isntB, c_is, c_isnt, eq_int, eq_bl, eq_pair, t_bl, t_int, t_lst, t_tup, l_tup, l_lst, l_scr, l_abs, l_int, l_intB, l_max, l_min, l_tt, l_tl, l_all, l_any, l_repr, s_tup, s_lst, s_scr, i_tt, i_ii, i_ib, i_it, ix0, ix1, ix2, v_var, v_cst, v_glo, v_tup, v_lst, v_lsts, d_nil, d_star, d_one, l_max1, l_min1, l_sum, v_bin, v_neg, v_nt, v_cmp, v_chain, v_and, v_or, v_ite, v_sub, v_rev, v_call, v_blt, v_isi, v_comp, evs, evAnd, evOr, evIfs, evT, evTAnd, evTOr, parS, bi_asc, tgD, tgDs, wipeS, slotsOf, slotsOfs, szk, wipeS, slotsOf, sc _ _ h.h1 (by decide)]
    · simp [x_nil, x_cons, x_set, x_setT, x_par, x_ife, x_ret, x_retf, n_lst, n_call, x_newl, x_exp, bi_ok, bi_bad, of_some, lk_dat, lks_nil, lks_cons, do_nil, do_cons, op_some, ob_some, b_add, b_sub, c_lt, c_le, c_gt, c_ge, c_eqS, c_neS, c_eqI, c_neI, c_eqB, c_neB, c_eqT, c_neT, c_eqL, c_neL, c_isB, c_isntB, c_is, c_isnt, eq_int, eq_bl, eq_pair, t_bl, t_int, t_lst, t_tup, l_tup, l_lst, l_scr, l_abs, l_int, l_intB, l_max, l_min, l_tt, l_tl, l_all, l_any, l_repr, s_tup, s_lst, s_scr, i_tt, i_ii, i_ib, i_it, ix0, ix1, ix2, v_var, v_cst, v_glo, v_tup, v_lst, v_lsts, d_nil, d_star, d_one, l_max1, l_min1, l_sum, v_bin, v_neg, v_nt, v_cmp, v_chain, v_and, v_or, v_ite, v_sub, v_rev, v_call, v_blt, v_isi, v_comp, evs, evAnd, evOr, evIfs, evT, evTAnd, evTOr, parS, bi_asc, tgD, tgDs, wipeS, slotsOf, slotsOfs, szk, wipeS, slotsOf, sc _ _ h.h2 (by decide)]
    · simp [x_nil, x_cons, x_set, x_setT, x_par, x_ife, x_ret, x_retf, n_lst, n_call, x_newl, x_exp, bi_ok, bi_bad, of_some, lk_dat, lks_nil, lks_cons, do_nil, do_cons, op_some, ob_some, b_add, b_sub, c_lt, c_le, c_gt, c_ge, c_eqS, c_neS, c_eqI, c_neI, c_eqB, c_neB, c_eqT, c_neT, c_eqL, c_neL, c_isB, c_isntB, c_is, c_isnt, eq_int, eq_bl, eq_pair, t_bl, t_int, t_lst, t_tup, l_tup, l_lst, l_scr, l_abs, l_int, l_intB, l_max, l_min, l_tt, l_tl, l_all, l_any, l_repr, s_tup, s_lst, s_scr, i_tt, i_ii, i_ib, i_it, ix0, ix1, ix2, v_var, v_cst, v_glo, v_tup, v_lst, v_lsts, d_nil, d_star, d_one, l_max1, l_min1, l_sum, v_bin, v_neg, v_nt, v_cmp, v_chain, v_and, v_or, v_ite, v_sub, v_rev, v_call, v_blt, v_isi, v_comp, evs, evAnd, evOr, evIfs, evT, evTAnd, evTOr, parS, bi_asc, tgD, tgDs, wipeS, slotsOf, slotsOfs, szk, wipeS, slotsOf, sc _ _ h.h3 (by decide)]
    · simp [x_nil, x_cons, x_set, x_setT, x_par, x_ife, x_ret, x_retf, n_lst, n_call, x_newl, x_exp, bi_ok, bi_bad, of_some, lk_dat, lks_nil, lks_cons, do_nil, do_cons, op_some, ob_some, b_add, b_sub, c_lt, c_le, c_gt, c_ge, c_eqS, c_neS, c_eqI, c_neI, c_eqB, c_neB, c_eqT, c_neT, c_eqL, c_neL, c_isB, c_isntB, c_is, c_isnt, eq_int, eq_bl, eq_pair, t_bl, t_int, t_lst, t_tup, l_tup, l_lst, l_scr, l_abs, l_int, l_intB, l_max, l_min, l_tt, l_tl, l_all, l_any, l_repr, s_tup, s_lst, s_scr, i_tt, i_ii, i_ib, i_it, ix0, ix1, ix2, v_var, v_cst, v_glo, v_tup, v_lst, v_lsts, d_nil, d_star, d_one, l_max1, l_min1, l_sum, v_bin, v_neg, v_nt, v_cmp, v_chain, v_and, v_or, v_ite, v_sub, v_rev, v_call, v_blt, v_isi, v_comp, evs, evAnd, evOr, evIfs, evT, evTAnd, evTOr, parS, bi_asc, tgD, tgDs, wipeS, slotsOf, slotsOfs, szk, wipeS, slotsOf, sc _ _ h.h4 (by decide)]
  have hj0 : ∀ v ∈ ([(.tup [wd w0, wd w1, wd w2, wd w3, wd w4]), (.tup [wd w0, wd w1, wd w2, wd (addW w3 (mulW w w2)), wd (subW w4 (mulW w w1))]), (.tup [wd (scW 2 w0), wd (scW 2 w1), wd (scW 2 w2), wd (scW 2 w3), wd (scW 2 w4)]), .lst [wd w0, wd w1, wd w2, wd w3, wd w4], .tup [wd w0, wd w1, wd w2, wd w3], .tup [wd w0, wd w1, wd w2, wd w3, wd w4, .tup []], .non, .tup [], .tup [wd w0, wd w2, wd w1, wd w3, wd w4]] ++ [.tup [.tup [.tup [.int 1, .int 1]], wd A, wd Bw, wd w3, wd w4], .tup [.tup [.tup [.int 1, .int 1]], wd w1, wd w2, wd w3, wd w4], .tup [.tup [], wd w1, wd w2, wd w3, wd w4], .tup [.tup [], .tup [], .tup [], .tup [], .tup []]] : List D), Jv A Bw v := by
    have hws := h.ws
    have j1 : Jv A Bw (.tup [wd w0, wd w1, wd w2, wd w3, wd w4]) := jv_words hA hBw hws
    have j2 : Jv A Bw (.tup [wd w0, wd w1, wd w2, wd (addW w3 (mulW w w2)), wd (subW w4 (mulW w w1))]) := jv_words hA hBw ⟨hws.g, hws.l, hws.r, (h.h3.add (hw.mul h.h2)).mono (by decide) (by decide), (h.h4.sub (hw.mul h.h1)).mono (by decide) (by decide)⟩
    have j3 : Jv A Bw (.tup [wd (scW 2 w0), wd (scW 2 w1), wd (scW 2 w2), wd (scW 2 w3), wd (scW 2 w4)]) := jv_words hA hBw ⟨(h.h0.sc nb2).mono (by decide) (by decide), (h.h1.sc nb2).mono (by decide) (by decide), (h.h2.sc nb2).mono (by decide) (by decide), (h.h3.sc nb2).mono (by decide) (by decide), (h.h4.sc nb2).mono (by decide) (by decide)⟩
    have j4 : Jv A Bw (.lst [wd w0, wd w1, wd w2, wd w3, wd w4]) := jv_not hA hBw (by simp [isiD, tyName])
    have j5 : Jv A Bw (.tup [wd w0, wd w1, wd w2, wd w3]) := jv_len hA hBw (by simp)
    have j6 : Jv A Bw (.tup [wd w0, wd w1, wd w2, wd w3, wd w4, .tup []]) := jv_len hA hBw (by simp)
    have j7 : Jv A Bw .non := jv_not hA hBw (by simp [isiD, tyName])
    have j8 : Jv A Bw (.tup []) := jv_len hA hBw (by simp)
    have j9 : Jv A Bw (.tup [wd w0, wd w2, wd w1, wd w3, wd w4]) := jv_words hA hBw ⟨hws.g, hws.r, hws.l, hws.f, hws.t⟩
    have o1 : Cd 1450 60 [1] := cd_one.mono (by decide) (by decide)
    have n1 : Cd 1450 60 [] := Cd.nil _ _ (by decide)
    have n2 : Cd 2300 60 [] := Cd.nil _ _ (by decide)
    have j10 : Jv A Bw (.tup [wd [1], wd A, wd Bw, wd w3, wd w4]) := jv_words hA hBw ⟨o1, hA.mono (by decide) (by decide), hBw.mono (by decide) (by decide), hws.f, hws.t⟩
    have j11 : Jv A Bw (.tup [wd [1], wd w1, wd w2, wd w3, wd w4]) := jv_words hA hBw ⟨o1, hws.l, hws.r, hws.f, hws.t⟩
    have j12 : Jv A Bw (.tup [wd [], wd w1, wd w2, wd w3, wd w4]) := jv_words hA hBw ⟨n1, hws.l, hws.r, hws.f, hws.t⟩
    have j13 : Jv A Bw (.tup [wd [], wd [], wd [], wd [], wd []]) := jv_words hA hBw ⟨n1, n1, n1, n2, n2⟩
    intro v hv
    simp at hv
    rcases hv with rfl | rfl | rfl | rfl | rfl | rfl | rfl | rfl | rfl | rfl | rfl | rfl | rfl
    · exact j1
    · exact j2
    · exact j3
    · exact j4
    · exact j5
    · exact j6
    · exact j7
    · exact j8
    · exact j9
    · exact j10
    · exact j11
    · exact j12
    · exact j13
  have hmL : Dm [.lst ([(.tup [wd w0, wd w1, wd w2, wd w3, wd w4]), (.tup [wd w0, wd w1, wd w2, wd (addW w3 (mulW w w2)), wd (subW w4 (mulW w w1))]), (.tup [wd (scW 2 w0), wd (scW 2 w1), wd (scW 2 w2), wd (scW 2 w3), wd (scW 2 w4)]), .lst [wd w0, wd w1, wd w2, wd w3, wd w4], .tup [wd w0, wd w1, wd w2, wd w3], .tup [wd w0, wd w1, wd w2, wd w3, wd w4, .tup []], .non, .tup [], .tup [wd w0, wd w2, wd w1, wd w3, wd w4]] ++ [.tup [.tup [.tup [.int 1, .int 1]], wd A, wd Bw, wd w3, wd w4], .tup [.tup [.tup [.int 1, .int 1]], wd w1, wd w2, wd w3, wd w4], .tup [.tup [], wd w1, wd w2, wd w3, wd w4], .tup [.tup [], .tup [], .tup [], .tup [], .tup []]])] (dmr [.lst ([(.tup [wd w0, wd w1, wd w2, wd w3, wd w4]), (.tup [wd w0, wd w1, wd w2, wd (addW w3 (mulW w w2)), wd (subW w4 (mulW w w1))]), (.tup [wd (scW 2 w0), wd (scW 2 w1), wd (scW 2 w2), wd (scW 2 w3), wd (scW 2 w4)]), .lst [wd w0, wd w1, wd w2, wd w3, wd w4], .tup [wd w0, wd w1, wd w2, wd w3], .tup [wd w0, wd w1, wd w2, wd w3, wd w4, .tup []], .non, .tup [], .tup [wd w0, wd w2, wd w1, wd w3, wd w4]] ++ [.tup [.tup [.tup [.int 1, .int 1]], wd A, wd Bw, wd w3, wd w4], .tup [.tup [.tup [.int 1, .int 1]], wd w1, wd w2, wd w3, wd w4], .tup [.tup [], wd w1, wd w2, wd w3, wd w4], .tup [.tup [], .tup [], .tup [], .tup [], .tup []]])] a1 b1 k1) (B + 1) := ⟨a1, b1, k1, rfl, hd1⟩
  obtain ⟨vs, x13, x14, x15, m9, e9, hj9, hl9, hm9⟩ := near_loop lv (B + 1) A Bw w0 w1 w2 w3 w4 (wd w) (wd w0) (wd w1) (wd w2) (wd w3) (wd w4) (.tup [wd w0, wd w1, wd w2, wd (addW w3 (mulW w w2)), wd (subW w4 (mulW w w1))]) (.tup [wd (scW 2 w0), wd (scW 2 w1), wd (scW 2 w2), wd (scW 2 w3), wd (scW 2 w4)]) _ _ hA hBw h hmL (by omega) (by simp) hj0
  obtain ⟨a9, b9, k9, rfl, hd9⟩ := hm9
  have key : exs W0 (callF W0 (lv + 4)) 1 b_law_near [some (.loc 0), some (.dat (wd A)), some (.dat (wd Bw)), some (.dat (.tup [wd w0, wd w1, wd w2, wd w3, wd w4])), none, none, none, none, none, none, none, none, none, none, none, none, none] (dmr [.nil] a b c) = .ok (.ret (.vl (.dat (.lst vs)))) (dmr [.nil] a9 b9 k9) := by
    unfold b_law_near
    have t4 : slcD (.tup [wd w0, wd w1, wd w2, wd w3, wd w4]) none (some 4) = some (.tup [wd w0, wd w1, wd w2, wd w3]) := rfl
    have t1 : slcD (.tup [wd w0, wd w1, wd w2, wd w3, wd w4]) (some 1) none = some (.tup [wd w1, wd w2, wd w3, wd w4]) := rfl
    have a6 : binD .Add (.tup [wd w0, wd w1, wd w2, wd w3, wd w4]) (.tup [.tup []]) = some (.tup [wd w0, wd w1, wd w2, wd w3, wd w4, .tup []]) := a_tup (by simp)
    have a7 : ∀ z, binD .Add (.tup [z]) (.tup [wd w1, wd w2, wd w3, wd w4]) = some (.tup [z, wd w1, wd w2, wd w3, wd w4]) := fun z => a_tup (by simp)
    have a8 : binD .Mult (.tup [.tup []]) (.int 5) = some (.tup [.tup [], .tup [], .tup [], .tup [], .tup []]) := rfl
    have lv5 : bltD .list [(.tup [wd w0, wd w1, wd w2, wd w3, wd w4])] = some (.lst [wd w0, wd w1, wd w2, wd w3, wd w4]) := rfl
    refine st1 (s' := [some (.loc 0), some (.dat (wd A)), some (.dat (wd Bw)), some (.dat (.tup [wd w0, wd w1, wd w2, wd w3, wd w4])), some (.dat (wd w)), none, none, none, none, none, none, none, none, none, none, none, none]) (m' := dmr [.nil] a1 b1 k1) (by simp [x_nil, x_cons, x_set, x_setT, x_par, x_ife, x_ret, x_retf, n_lst, n_call, x_newl, x_exp, bi_ok, bi_bad, of_some, lk_dat, lks_nil, lks_cons, do_nil, do_cons, op_some, ob_some, b_add, b_sub, c_lt, c_le, c_gt, c_ge, c_eqS, c_neS, c_eqI, c_neI, c_eqB, c_neB, c_eqT, c_neT, c_eqL, c_neL, c_isB, c_isntB, c_is, c_isnt, eq_int, eq_bl, eq_pair, t_bl, t_int, t_lst, t_tup, l_tup, l_lst, l_scr, l_abs, l_int, l_intB, l_max, l_min, l_tt, l_tl, l_all, l_any, l_repr, s_tup, s_lst, s_scr, i_tt, i_ii, i_ib, i_it, ix0, ix1, ix2, v_var, v_cst, v_glo, v_tup, v_lst, v_lsts, d_nil, d_star, d_one, l_max1, l_min1, l_sum, v_bin, v_neg, v_nt, v_cmp, v_chain, v_and, v_or, v_ite, v_sub, v_rev, v_call, v_blt, v_isi, v_comp, evs, evAnd, evOr, evIfs, evT, evTAnd, evTOr, parS, bi_asc, tgD, tgDs, wipeS, slotsOf, slotsOfs, szk, p1]) ?_
    refine st1 (s' := [some (.loc 0), some (.dat (wd A)), some (.dat (wd Bw)), some (.dat (.tup [wd w0, wd w1, wd w2, wd w3, wd w4])), some (.dat (wd w)), some (.dat (wd w0)), some (.dat (wd w1)), some (.dat (wd w2)), some (.dat (wd w3)), some (.dat (wd w4)), none, none, none, none, none, none, none]) (m' := dmr [.nil] a1 b1 k1) (by simp [x_nil, x_cons, x_set, x_setT, x_par, x_ife, x_ret, x_retf, n_lst, n_call, x_newl, x_exp, bi_ok, bi_bad, of_some, lk_dat, lks_nil, lks_cons, do_nil, do_cons, op_some, ob_some, b_add, b_sub, c_lt, c_le, c_gt, c_ge, c_eqS, c_neS, c_eqI, c_neI, c_eqB, c_neB, c_eqT, c_neT, c_eqL, c_neL, c_isB, c_isntB, c_is, c_isnt, eq_int, eq_bl, eq_pair, t_bl, t_int, t_lst, t_tup, l_tup, l_lst, l_scr, l_abs, l_int, l_intB, l_max, l_min, l_tt, l_tl, l_all, l_any, l_repr, s_tup, s_lst, s_scr, i_tt, i_ii, i_ib, i_it, ix0, ix1, ix2, v_var, v_cst, v_glo, v_tup, v_lst, v_lsts, d_nil, d_star, d_one, l_max1, l_min1, l_sum, v_bin, v_neg, v_nt, v_cmp, v_chain, v_and, v_or, v_ite, v_sub, v_rev, v_call, v_blt, v_isi, v_comp, evs, evAnd, evOr, evIfs, evT, evTAnd, evTOr, parS, bi_asc, tgD, tgDs, wipeS, slotsOf, slotsOfs, szk, tgD, tgDs]) ?_
    refine st1 (s' := [some (.loc 0), some (.dat (wd A)), some (.dat (wd Bw)), some (.dat (.tup [wd w0, wd w1, wd w2, wd w3, wd w4])), some (.dat (wd w)), some (.dat (wd w0)), some (.dat (wd w1)), some (.dat (wd w2)), some (.dat (wd w3)), some (.dat (wd w4)), some (.dat (.tup [wd w0, wd w1, wd w2, wd (addW w3 (mulW w w2)), wd (subW w4 (mulW w w1))])), none, none, none, none, none, none]) (m' := dmr [.nil] a1 b1 k1) (by simp [x_nil, x_cons, x_set, x_setT, x_par, x_ife, x_ret, x_retf, n_lst, n_call, x_newl, x_exp, bi_ok, bi_bad, of_some, lk_dat, lks_nil, lks_cons, do_nil, do_cons, op_some, ob_some, b_add, b_sub, c_lt, c_le, c_gt, c_ge, c_eqS, c_neS, c_eqI, c_neI, c_eqB, c_neB, c_eqT, c_neT, c_eqL, c_neL, c_isB, c_isntB, c_is, c_isnt, eq_int, eq_bl, eq_pair, t_bl, t_int, t_lst, t_tup, l_tup, l_lst, l_scr, l_abs, l_int, l_intB, l_max, l_min, l_tt, l_tl, l_all, l_any, l_repr, s_tup, s_lst, s_scr, i_tt, i_ii, i_ib, i_it, ix0, ix1, ix2, v_var, v_cst, v_glo, v_tup, v_lst, v_lsts, d_nil, d_star, d_one, l_max1, l_min1, l_sum, v_bin, v_neg, v_nt, v_cmp, v_chain, v_and, v_or, v_ite, v_sub, v_rev, v_call, v_blt, v_isi, v_comp, evs, evAnd, evOr, evIfs, evT, evTAnd, evTOr, parS, bi_asc, tgD, tgDs, wipeS, slotsOf, slotsOfs, szk, u1, u2, u3, u4]) ?_
    refine st1 (s' := [some (.loc 0), some (.dat (wd A)), some (.dat (wd Bw)), some (.dat (.tup [wd w0, wd w1, wd w2, wd w3, wd w4])), some (.dat (wd w)), some (.dat (wd w0)), some (.dat (wd w1)), some (.dat (wd w2)), some (.dat (wd w3)), some (.dat (wd w4)), some (.dat (.tup [wd w0, wd w1, wd w2, wd (addW w3 (mulW w w2)), wd (subW w4 (mulW w w1))])), some (.dat (.tup [wd (scW 2 w0), wd (scW 2 w1), wd (scW 2 w2), wd (scW 2 w3), wd (scW 2 w4)])), none, none, none, none, none]) (m' := dmr [.nil] a1 b1 k1) (by simp [x_nil, x_cons, x_set, x_setT, x_par, x_ife, x_ret, x_retf, n_lst, n_call, x_newl, x_exp, bi_ok, bi_bad, of_some, lk_dat, lks_nil, lks_cons, do_nil, do_cons, op_some, ob_some, b_add, b_sub, c_lt, c_le, c_gt, c_ge, c_eqS, c_neS, c_eqI, c_neI, c_eqB, c_neB, c_eqT, c_neT, c_eqL, c_neL, c_isB, c_isntB, c_is, c_isnt, eq_int, eq_bl, eq_pair, t_bl, t_int, t_lst, t_tup, l_tup, l_lst, l_scr, l_abs, l_int, l_intB, l_max, l_min, l_tt, l_tl, l_all, l_any, l_repr, s_tup, s_lst, s_scr, i_tt, i_ii, i_ib, i_it, ix0, ix1, ix2, v_var, v_cst, v_glo, v_tup, v_lst, v_lsts, d_nil, d_star, d_one, l_max1, l_min1, l_sum, v_bin, v_neg, v_nt, v_cmp, v_chain, v_and, v_or, v_ite, v_sub, v_rev, v_call, v_blt, v_isi, v_comp, evs, evAnd, evOr, evIfs, evT, evTAnd, evTOr, parS, bi_asc, tgD, tgDs, wipeS, slotsOf, slotsOfs, szk, et]) ?_
    refine st1 (s' := [some (.loc 0), some (.dat (wd A)), some (.dat (wd Bw)), some (.dat (.tup [wd w0, wd w1, wd w2, wd w3, wd w4])), some (.dat (wd w)), some (.dat (wd w0)), some (.dat (wd w1)), some (.dat (wd w2)), some (.dat (wd w3)), some (.dat (wd w4)), some (.dat (.tup [wd w0, wd w1, wd w2, wd (addW w3 (mulW w w2)), wd (subW w4 (mulW w w1))])), some (.dat (.tup [wd (scW 2 w0), wd (scW 2 w1), wd (scW 2 w2), wd (scW 2 w3), wd (scW 2 w4)])), some (.loc 1), none, none, none, none]) (m' := dmr [.lst [(.tup [wd w0, wd w1, wd w2, wd w3, wd w4]), (.tup [wd w0, wd w1, wd w2, wd (addW w3 (mulW w w2)), wd (subW w4 (mulW w w1))]), (.tup [wd (scW 2 w0), wd (scW 2 w1), wd (scW 2 w2), wd (scW 2 w3), wd (scW 2 w4)]), .lst [wd w0, wd w1, wd w2, wd w3, wd w4], .tup [wd w0, wd w1, wd w2, wd w3], .tup [wd w0, wd w1, wd w2, wd w3, wd w4, .tup []], .non, .tup [], .tup [wd w0, wd w2, wd w1, wd w3, wd w4]]] a1 b1 k1) (by simp [x_nil, x_cons, x_set, x_setT, x_par, x_ife, x_ret, x_retf, n_lst, n_call, x_newl, x_exp, bi_ok, bi_bad, of_some, lk_dat, lks_nil, lks_cons, do_nil, do_cons, op_some, ob_some, b_add, b_sub, c_lt, c_le, c_gt, c_ge, c_eqS, c_neS, c_eqI, c_neI, c_eqB, c_neB, c_eqT, c_neT, c_eqL, c_neL, c_isB, c_isntB, c_is, c_isnt, eq_int, eq_bl, eq_pair, t_bl, t_int, t_lst, t_tup, l_tup, l_lst, l_scr, l_abs, l_int, l_intB, l_max, l_min, l_tt, l_tl, l_all, l_any, l_repr, s_tup, s_lst, s_scr, i_tt, i_ii, i_ib, i_it, ix0, ix1, ix2, v_var, v_cst, v_glo, v_tup, v_lst, v_lsts, d_nil, d_star, d_one, l_max1, l_min1, l_sum, v_bin, v_neg, v_nt, v_cmp, v_chain, v_and, v_or, v_ite, v_sub, v_rev, v_call, v_blt, v_isi, v_comp, evs, evAnd, evOr, evIfs, evT, evTAnd, evTOr, parS, bi_asc, tgD, tgDs, wipeS, slotsOf, slotsOfs, szk, v_slcH, t4, a6, lv5, EV.freeOf, dmr]) ?_
    refine st1 (s' := [some (.loc 0), some (.dat (wd A)), some (.dat (wd Bw)), some (.dat (.tup [wd w0, wd w1, wd w2, wd w3, wd w4])), some (.dat (wd w)), some (.dat (wd w0)), some (.dat (wd w1)), some (.dat (wd w2)), some (.dat (wd w3)), some (.dat (wd w4)), some (.dat (.tup [wd w0, wd w1, wd w2, wd (addW w3 (mulW w w2)), wd (subW w4 (mulW w w1))])), some (.dat (.tup [wd (scW 2 w0), wd (scW 2 w1), wd (scW 2 w2), wd (scW 2 w3), wd (scW 2 w4)])), some (.loc 1), none, none, none, none]) (m' := dmr [.lst ([(.tup [wd w0, wd w1, wd w2, wd w3, wd w4]), (.tup [wd w0, wd w1, wd w2, wd (addW w3 (mulW w w2)), wd (subW w4 (mulW w w1))]), (.tup [wd (scW 2 w0), wd (scW 2 w1), wd (scW 2 w2), wd (scW 2 w3), wd (scW 2 w4)]), .lst [wd w0, wd w1, wd w2, wd w3, wd w4], .tup [wd w0, wd w1, wd w2, wd w3], .tup [wd w0, wd w1, wd w2, wd w3, wd w4, .tup []], .non, .tup [], .tup [wd w0, wd w2, wd w1, wd w3, wd w4]] ++ [.tup [.tup [.tup [.int 1, .int 1]], wd A, wd Bw, wd w3, wd w4], .tup [.tup [.tup [.int 1, .int 1]], wd w1, wd w2, wd w3, wd w4], .tup [.tup [], wd w1, wd w2, wd w3, wd w4], .tup [.tup [], .tup [], .tup [], .tup [], .tup []]])] a1 b1 k1) (by
      have lk : look (dmr [.lst [(.tup [wd w0, wd w1, wd w2, wd w3, wd w4]), (.tup [wd w0, wd w1, wd w2, wd (addW w3 (mulW w w2)), wd (subW w4 (mulW w w1))]), (.tup [wd (scW 2 w0), wd (scW 2 w1), wd (scW 2 w2), wd (scW 2 w3), wd (scW 2 w4)]), .lst [wd w0, wd w1, wd w2, wd w3, wd w4], .tup [wd w0, wd w1, wd w2, wd w3], .tup [wd w0, wd w1, wd w2, wd w3, wd w4, .tup []], .non, .tup [], .tup [wd w0, wd w2, wd w1, wd w3, wd w4]]] a1 b1 k1) (.loc 1) = some (.lst [(.tup [wd w0, wd w1, wd w2, wd w3, wd w4]), (.tup [wd w0, wd w1, wd w2, wd (addW w3 (mulW w w2)), wd (subW w4 (mulW w w1))]), (.tup [wd (scW 2 w0), wd (scW 2 w1), wd (scW 2 w2), wd (scW 2 w3), wd (scW 2 w4)]), .lst [wd w0, wd w1, wd w2, wd w3, wd w4], .tup [wd w0, wd w1, wd w2, wd w3], .tup [wd w0, wd w1, wd w2, wd w3, wd w4, .tup []], .non, .tup [], .tup [wd w0, wd w2, wd w1, wd w3, wd w4]]) := rfl
      have i3 : ∀ y z, (dmr [y] a1 b1 k1).set 1 z = dmr [z] a1 b1 k1 := fun y z => rfl
      have i4 : ∀ y, (dmr [y] a1 b1 k1).length = 2 := fun y => rfl
      simp [x_nil, x_cons, x_set, x_setT, x_par, x_ife, x_ret, x_retf, n_lst, n_call, x_newl, x_exp, bi_ok, bi_bad, of_some, lk_dat, lks_nil, lks_cons, do_nil, do_cons, op_some, ob_some, b_add, b_sub, c_lt, c_le, c_gt, c_ge, c_eqS, c_neS, c_eqI, c_neI, c_eqB, c_neB, c_eqT, c_neT, c_eqL, c_neL, c_isB, c_isntB, c_is, c_isnt, eq_int, eq_bl, eq_pair, t_bl, t_int, t_lst, t_tup, l_tup, l_lst, l_scr, l_abs, l_int, l_intB, l_max, l_min, l_tt, l_tl, l_all, l_any, l_repr, s_tup, s_lst, s_scr, i_tt, i_ii, i_ib, i_it, ix0, ix1, ix2, v_var, v_cst, v_glo, v_tup, v_lst, v_lsts, d_nil, d_star, d_one, l_max1, l_min1, l_sum, v_bin, v_neg, v_nt, v_cmp, v_chain, v_and, v_or, v_ite, v_sub, v_rev, v_call, v_blt, v_isi, v_comp, evs, evAnd, evOr, evIfs, evT, evTAnd, evTOr, parS, bi_asc, tgD, tgDs, wipeS, slotsOf, slotsOfs, szk, n_add, v_slcL, lk, t1, a7, a8, EV.freeOf, i3, i4]) ?_
    refine st1 e9 ?_
    have la : locAt [some (.loc 0), some (.dat (wd A)), some (.dat (wd Bw)), some (.dat (.tup [wd w0, wd w1, wd w2, wd w3, wd w4])), some (.dat (wd w)), some (.dat (wd w0)), some (.dat (wd w1)), some (.dat (wd w2)), some (.dat (wd w3)), some (.dat (wd w4)), some (.dat (.tup [wd w0, wd w1, wd w2, wd (addW w3 (mulW w w2)), wd (subW w4 (mulW w w1))])), some (.dat (.tup [wd (scW 2 w0), wd (scW 2 w1), wd (scW 2 w2), wd (scW 2 w3), wd (scW 2 w4)])), some (.loc 1), x13, x14, x15, none] 12 = some 1 := rfl
    have g9 : (dmr [.lst vs] a9 b9 k9)[1]? = some (.lst vs) := rfl
    have g8 : (dmr [.lst vs] a9 b9 k9).set 1 .nil = dmr [.nil] a9 b9 k9 := rfl
    refine st1 (s' := frzS 1 vs [some (.loc 0), some (.dat (wd A)), some (.dat (wd Bw)), some (.dat (.tup [wd w0, wd w1, wd w2, wd w3, wd w4])), some (.dat (wd w)), some (.dat (wd w0)), some (.dat (wd w1)), some (.dat (wd w2)), some (.dat (wd w3)), some (.dat (wd w4)), some (.dat (.tup [wd w0, wd w1, wd w2, wd (addW w3 (mulW w w2)), wd (subW w4 (mulW w w1))])), some (.dat (.tup [wd (scW 2 w0), wd (scW 2 w1), wd (scW 2 w2), wd (scW 2 w3), wd (scW 2 w4)])), some (.loc 1), x13, x14, x15, none]) (m' := dmr [.nil] a9 b9 k9) (by simp [x_frz, la, g9, g8]) ?_
    have f9 : (frzS 1 vs [some (.loc 0), some (.dat (wd A)), some (.dat (wd Bw)), some (.dat (.tup [wd w0, wd w1, wd w2, wd w3, wd w4])), some (.dat (wd w)), some (.dat (wd w0)), some (.dat (wd w1)), some (.dat (wd w2)), some (.dat (wd w3)), some (.dat (wd w4)), some (.dat (.tup [wd w0, wd w1, wd w2, wd (addW w3 (mulW w w2)), wd (subW w4 (mulW w w1))])), some (.dat (.tup [wd (scW 2 w0), wd (scW 2 w1), wd (scW 2 w2), wd (scW 2 w3), wd (scW 2 w4)])), some (.loc 1), x13, x14, x15, none])[12]? = some (some (.dat (.lst vs))) := rfl
    simp only [x_cons, x_ret, v_var, f9, bi_ok]
  refine ⟨vs, dmr [] a9 b9 k9, ?_, hj9, hl9, a9, b9, k9, rfl, hd9.a0, hd9.a1, hd9.b0, hd9.b1, hd9.c0, by have := hd9.c1; omega⟩
  rw [c_law_near]
  have := ru_cut (f := d_law_near) (vs := [.loc 0, .dat (wd A), .dat (wd Bw), .dat (.tup [wd w0, wd w1, wd w2, wd w3, wd w4])]) (m := dmr [] a b c) rfl rfl key
  simpa [dmr] using this
end K24

set_option Elab.async false
set_option linter.all false
set_option maxRecDepth 100000
set_option maxHeartbeats 4000000
set_option exponentiation.threshold 10000
namespace K24
open PySem EV POLY
variable {rs : Sto}
def Hf (x : Rat) : Prop := ∃ a : Int, a.natAbs < 2 ^ 3 ∧ x = (a : Rat) / ((2 : Int) : Rat)
theorem hf_cd {qs : List Rat} {l : Nat} (h : ∀ x ∈ qs, Hf x) (hl : qs.length ≤ l) : Cd 3 l (cut qs) := ⟨trim_cut _, Nat.le_trans (cut_len _) hl, 2, by decide, by decide, fun n => by
  rw [cf_cut]
  unfold cf
  rw [List.getD_eq_getElem?_getD]
  cases e : qs[n]? with
  | none => exact ⟨0, by decide, (zdiv _).symm⟩
  | some y => exact h y (List.mem_of_getElem? e)⟩
theorem law_word_ok (lv B most : Nat) (m : Sto) (hm : Dm rs m B) (hB : B + most + 3 ≤ 2 ^ 60) (hs : most ≤ 20) : ∃ (p : List Rat) (m' : Sto), callF W0 (lv + 3) 42 [.loc 0, .dat (.int most)] m = .ok (.vl (.dat (wd p))) m' ∧ Cd 3 (most + 1) p ∧ Dm rs m' (B + most + 3) := by
  obtain ⟨n, m1, e1, n0, n1, hm1⟩ := roll_ok (lv + 1) B m ((most : Int) + 2) hm (by omega) (by omega) (by omega)
  obtain ⟨n, rfl⟩ : ∃ k : Nat, n = k := ⟨n.toNat, by omega⟩
  have hn : n ≤ most + 1 := by omega
  obtain ⟨ds, m2, e2, qs, rfl, hl, hq, hm2⟩ := evC_st (W := W0) (C := callF W0 (lv + 2)) (tg := .nm 3) (ik := .rng1) (src := [(.call 27 [(.var 0), (.bin .Add (.var 1) (.cst (.int 2)))])]) (ifs := []) (elt := .call 28 [(.var 0), (.var 2)])
    (s := [some (.loc 0), some (.dat (.int most)), some (.dat (.lst [.tup [.int 0, .int 1], .tup [.int 1, .int 1], .tup [.int (-1), .int 1], .tup [.int 2, .int 1], .tup [.int 1, .int 2], .tup [.int (-3), .int 2]])), none]) (m := m) (m1 := m1) (vs := [.dat (.int n)]) (ds := [.int n]) (enc := fun i : Nat => D.int i)
    (fun r acc mm => ∃ qs : List Rat, acc = qs.map fr ∧ qs.length + r.length = n ∧ (∀ x ∈ qs, Hf x) ∧ Dm rs mm (B + 1 + qs.length)) (List.range n) (by simp [x_nil, x_cons, x_set, x_setT, x_par, x_ife, x_ret, x_retf, n_lst, n_call, x_newl, x_exp, bi_ok, bi_bad, of_some, lk_dat, lks_nil, lks_cons, do_nil, do_cons, op_some, ob_some, b_add, b_sub, c_lt, c_le, c_gt, c_ge, c_eqS, c_neS, c_eqI, c_neI, c_eqB, c_neB, c_eqT, c_neT, c_eqL, c_neL, c_isB, c_isntB, c_is, c_isnt, eq_int, eq_bl, eq_pair, t_bl, t_int, t_lst, t_tup, l_tup, l_lst, l_scr, l_abs, l_int, l_intB, l_max, l_min, l_tt, l_tl, l_all, l_any, l_repr, s_tup, s_lst, s_scr, i_tt, i_ii, i_ib, i_it, ix0, ix1, ix2, v_var, v_cst, v_glo, v_tup, v_lst, v_lsts, d_nil, d_star, d_one, l_max1, l_min1, l_sum, v_bin, v_neg, v_nt, v_cmp, v_chain, v_and, v_or, v_ite, v_sub, v_rev, v_call, v_blt, v_isi, v_comp, evs, evAnd, evOr, evIfs, evT, evTAnd, evTOr, parS, bi_asc, tgD, tgDs, wipeS, slotsOf, slotsOfs, szk, e1]) rfl (wd_rng1 (by omega)) (by simp; omega) ⟨[], rfl, by simp, by simp, hm1⟩ (by
    rintro x r acc mm ⟨qs, rfl, hl, hq, hmm⟩
    rw [List.length_cons] at hl
    obtain ⟨i, d, m3, e3, g3, hm3⟩ := pick_ok lv (B + 1 + qs.length) mm [.tup [.int 0, .int 1], .tup [.int 1, .int 1], .tup [.int (-1), .int 1], .tup [.int 2, .int 1], .tup [.int 1, .int 2], .tup [.int (-3), .int 2]] hmm (by omega) (by decide) (by decide)
    obtain ⟨q, rfl, hq0⟩ : ∃ q : Rat, d = fr q ∧ Hf q := by
      have mem := List.mem_of_getElem? g3
      simp at mem
      rcases mem with rfl | rfl | rfl | rfl | rfl | rfl
      · exact ⟨0, rfl, 0, by decide, by decide +kernel⟩
      · exact ⟨1, rfl, 2, by decide, by decide +kernel⟩
      · exact ⟨-1, rfl, -2, by decide, by decide +kernel⟩
      · exact ⟨2, rfl, 4, by decide, by decide +kernel⟩
      · exact ⟨⟨1, 2, by decide, by decide⟩, rfl, 1, by decide, by decide +kernel⟩
      · exact ⟨⟨-3, 2, by decide, by decide⟩, rfl, -3, by decide, by decide +kernel⟩
    refine ⟨fr q, m3, ?_, qs ++ [q], by simp, by simp; omega, fun y hy => ?_, ?_⟩
    · refine turn0 rfl ?_
      simp [x_nil, x_cons, x_set, x_setT, x_par, x_ife, x_ret, x_retf, n_lst, n_call, x_newl, x_exp, bi_ok, bi_bad, of_some, lk_dat, lks_nil, lks_cons, do_nil, do_cons, op_some, ob_some, b_add, b_sub, c_lt, c_le, c_gt, c_ge, c_eqS, c_neS, c_eqI, c_neI, c_eqB, c_neB, c_eqT, c_neT, c_eqL, c_neL, c_isB, c_isntB, c_is, c_isnt, eq_int, eq_bl, eq_pair, t_bl, t_int, t_lst, t_tup, l_tup, l_lst, l_scr, l_abs, l_int, l_intB, l_max, l_min, l_tt, l_tl, l_all, l_any, l_repr, s_tup, s_lst, s_scr, i_tt, i_ii, i_ib, i_it, ix0, ix1, ix2, v_var, v_cst, v_glo, v_tup, v_lst, v_lsts, d_nil, d_star, d_one, l_max1, l_min1, l_sum, v_bin, v_neg, v_nt, v_cmp, v_chain, v_and, v_or, v_ite, v_sub, v_rev, v_call, v_blt, v_isi, v_comp, evs, evAnd, evOr, evIfs, evT, evTAnd, evTOr, parS, bi_asc, tgD, tgDs, wipeS, slotsOf, slotsOfs, szk, wipeS, slotsOf, e3]
    · rcases List.mem_append.mp hy with h | h
      · exact hq y h
      · rw [List.mem_singleton] at h; rw [h]; exact hq0
    · rw [List.length_append]
      exact hm3)
  simp at hl
  have c := wd_cut_ok (lv + 1) m2 qs (by omega)
  refine ⟨cut qs, m2, ?_, hf_cd hq (by omega), hm2.mono (by omega)⟩
  rw [c_law_word]
  refine ru_dat rfl rfl rfl (by rw [hm.len, hm2.len]) ?_
  simp [d_law_word, b_law_word, x_nil, x_cons, x_set, x_setT, x_par, x_ife, x_ret, x_retf, n_lst, n_call, x_newl, x_exp, bi_ok, bi_bad, of_some, lk_dat, lks_nil, lks_cons, do_nil, do_cons, op_some, ob_some, b_add, b_sub, c_lt, c_le, c_gt, c_ge, c_eqS, c_neS, c_eqI, c_neI, c_eqB, c_neB, c_eqT, c_neT, c_eqL, c_neL, c_isB, c_isntB, c_is, c_isnt, eq_int, eq_bl, eq_pair, t_bl, t_int, t_lst, t_tup, l_tup, l_lst, l_scr, l_abs, l_int, l_intB, l_max, l_min, l_tt, l_tl, l_all, l_any, l_repr, s_tup, s_lst, s_scr, i_tt, i_ii, i_ib, i_it, ix0, ix1, ix2, v_var, v_cst, v_glo, v_tup, v_lst, v_lsts, d_nil, d_star, d_one, l_max1, l_min1, l_sum, v_bin, v_neg, v_nt, v_cmp, v_chain, v_and, v_or, v_ite, v_sub, v_rev, v_call, v_blt, v_isi, v_comp, evs, evAnd, evOr, evIfs, evT, evTAnd, evTOr, parS, bi_asc, tgD, tgDs, wipeS, slotsOf, slotsOfs, szk, e2, c]
theorem fr_flB {q : Rat} (hb : Bd 120 q) : Fl [2] (fr q) := by
  have h1 := hb.num
  have h2 := hb.denI
  unfold Sm at h1 h2
  unfold fr Fl
  refine ⟨by simp, fun x hx => ?_⟩
  rcases List.mem_cons.mp hx with rfl | hx
  · unfold Fl; exact h1
  · rw [List.mem_singleton] at hx
    subst hx
    unfold Fl; exact h2
theorem wd_flC {k l : Nat} {p : List Rat} (h : Cd k l p) (hk : k ≤ 120) (L : Nat) (hl : l ≤ L) : Fl [L, 2] (wd p) := by
  unfold wd Fl
  refine ⟨by have := h.ln; simp; omega, fun x hx => ?_⟩
  obtain ⟨q, hq, rfl⟩ := List.mem_map.mp hx
  exact fr_flB (cd_bd h hk q hq)
theorem repr_bl (b : Bool) : ∃ x, reprD (.bl b) = some x := by
  refine repr_of (p := .bool b) rfl rfl (by simp [PyData.depth]) rfl rfl (by simp [PyData.weight])
theorem dv_scale {s g g' : List Rat} (h : Dv g g') : Dv (mulW s g) (mulW s g') := by
  obtain ⟨q, hq, rfl⟩ := h
  exact ⟨q, hq, by rw [← mulW_assoc, mulW_comm s q, mulW_assoc]⟩
theorem Cw.swap {s x y : List Rat} (h : Cw s x y) (h' : Cw s y x) : mulW s (gam s y x) = mulW s (gam s x y) := by
  rw [← mon_gam, ← mon_gam]
  have a := h.gc.2
  have b := h'.gc.2.symm
  exact mon_eq (tr_mul _ _) (tr_mul _ _) (dv_scale (a.u _ b.l b.r)) (dv_scale (b.u _ a.l a.r))
theorem Cw.gcd' {s x y : List Rat} (h : Cw s x y) : Cd 90 5 (gam s x y) := by
  by_cases g0 : (eu x y).1 = []
  · have : gam s x y = [] := by unfold gam; rw [g0]; rfl
    rw [this]
    exact Cd.nil _ _ (by decide)
  · exact h.gcd g0
/-- all that is asked of the paper -/
structure Pp (s x y w0 w1 w2 w3 w4 : List Rat) : Prop where
  pw : pw s x y = [w0, w1, w2, w3, w4]
  w : W5 w0 w1 w2 w3 w4
  jd : jd (mulW s x) (mulW s y) w0 w1 w2 w3 w4 = true
  d : w0 = mulW s (gam s x y)
  q1 : ∀ lv m, callF W0 (lv + 5) 47 [.dat (wd (mulW s x)), .dat (wd w0)] m = .ok (.vl (.dat (wd w1))) m
  q2 : ∀ lv m, callF W0 (lv + 5) 47 [.dat (wd (mulW s y)), .dat (wd w0)] m = .ok (.vl (.dat (wd w2))) m
  f1 : scW (hd s x y) (eu x y).2.1 = w3
  f2 : scW (hd s x y) (eu x y).2.2 = w4
  d1 : ∀ lv m, callF W0 (lv + 8) 21 [.dat (wd w0), .dat (wd (mulW s x))] m = .ok (.vl (.dat (.bl true))) m
  d2 : ∀ lv m, callF W0 (lv + 8) 21 [.dat (wd w0), .dat (wd (mulW s y))] m = .ok (.vl (.dat (.bl true))) m
theorem Cw.pp {s x y : List Rat} (h : Cw s x y) : ∃ w0 w1 w2 w3 w4, Pp s x y w0 w1 w2 w3 w4 := by
  by_cases g0 : (eu x y).1 = []
  · obtain ⟨rfl, rfl⟩ := h.nil g0
    have h0 : hd s [] [] = 0 := by
      unfold hd
      rw [g0, mulW_nil']
      exact one_div0
    have hg : gam s [] [] = [] := by unfold gam; rw [g0]; rfl
    have n1 : Cd 1400 30 [] := Cd.nil _ _ (by decide)
    have n2 : Cd 800 30 [] := Cd.nil _ _ (by decide)
    refine ⟨[], [], [], [], [], by unfold pw; rw [if_pos g0], ⟨n1, n1, n1, n2, n2⟩, ?_, by rw [hg, mulW_nil'], fun lv m => ?_, fun lv m => ?_, by rw [h0, sc0], by rw [h0, sc0], fun lv m => ?_, fun lv m => ?_⟩
    · rw [mulW_nil']; decide
    · rw [mulW_nil']; exact law_quotient0 lv m _
    · rw [mulW_nil']; exact law_quotient0 lv m _
    · rw [mulW_nil']; exact divides_nil lv m
    · rw [mulW_nil']; exact divides_nil lv m
  · obtain ⟨g2, g3, hE⟩ := h.es
    have l1 := List.length_pos_iff.mpr g0
    have sg := mul_ne h.hs.tr h.gc.1 h.s0 g0
    have hlne := lc_ne (tr_mul s (eu x y).1) sg.2.2
    have csg := h.hs.mul hE.cx
    have u0 : Ud (eu x y).1.length ≤ 170 := ud_le 1 _ l1
    have v0 := vd1 l1
    have ll := ld1 (eu x y).1.length
    have nh : Nb (1 + (3 + Ud (eu x y).1.length + 4)) (hd s x y) := nb_one.div csg.lead hlne
    have gc := h.gcd g0
    have gn := h.g0 g0
    obtain ⟨ex, rx, tx⟩ := dv_div gc.tr gn (h.dx g0)
    obtain ⟨ey, ry, ty⟩ := dv_div gc.tr gn (h.dy g0)
    obtain ⟨t1, t2⟩ := h.lim g0 h.hx
    obtain ⟨t3, t4⟩ := h.lim g0 h.hy
    refine ⟨mulW s (gam s x y), (divW x (gam s x y)).1, (divW y (gam s x y)).1, scW (hd s x y) (eu x y).2.1, scW (hd s x y) (eu x y).2.2, by unfold pw; rw [if_neg g0], ⟨(h.hs.mul gc).mono (by decide) (by decide), (h.q g0 h.hx).mono (by decide) (by decide), (h.q g0 h.hy).mono (by decide) (by decide), (hE.f0.sc nh).mono (by omega) (by omega), (hE.f1.sc nh).mono (by omega) (by omega)⟩, ?_, rfl, fun lv m => ?_, fun lv m => ?_, rfl, rfl, fun lv m => ?_, fun lv m => ?_⟩
    · have e1 : lc (mulW s (gam s x y)) = 1 := by
        rw [← mon_gam]
        exact mon_lc (tr_mul _ _) sg.2.2
      have e2 : mulW (divW x (gam s x y)).1 (mulW s (gam s x y)) = mulW s x := by
        rw [← mulW_assoc, mulW_comm _ s, mulW_assoc, ← ex]
      have e3 : mulW (divW y (gam s x y)).1 (mulW s (gam s x y)) = mulW s y := by
        rw [← mulW_assoc, mulW_comm _ s, mulW_assoc, ← ey]
      unfold jd
      rw [h.lin, e2, e3, e1]
      simp
    · exact law_quotient_ok lv 3 90 1400 460 m s x (gam s x y) h.hs h.s0 h.hx gc gn (h.dx g0) t1 t2 (by decide) (by decide)
    · exact law_quotient_ok lv 3 90 1400 460 m s y (gam s x y) h.hs h.s0 h.hy gc gn (h.dy g0) t3 t4 (by decide) (by decide)
    · have c := divides_ok lv 3 90 1400 460 m s x (gam s x y) h.hs h.s0 h.hx gc gn t1 t2 (by decide) (by decide) (by decide)
      rw [rx] at c
      exact c
    · have c := divides_ok lv 3 90 1400 460 m s y (gam s x y) h.hs h.s0 h.hy gc gn t3 t4 (by decide) (by decide) (by decide)
      rw [ry] at c
      exact c
theorem pt_one : ∀ e, e < 6 → 1 + Pt e 90 1 ≤ 600 ∧ 90 + e * 2 ≤ 100 := by decide
theorem div_shared (lv : Nat) (m : Sto) {s x y : List Rat} (h : Cw s x y) : callF W0 (lv + 8) 21 [.dat (wd s), .dat (wd (mulW s (gam s x y)))] m = .ok (.vl (.dat (.bl true))) m := by
  have g := h.gcd'
  have o : Cd 1 5 [1] := cd_one.mono (by decide) (by decide)
  obtain ⟨t1, t2⟩ := pt_one ((gam s x y).length + 1 - [(1 : Rat)].length) (by have := g.ln; simp; omega)
  have c := divides_ok lv 90 1 600 100 m s (gam s x y) [1] h.hs h.s0 g o (by simp) t1 t2 (by decide) (by decide) (by decide)
  have e := div_exact (q := gam s x y) (y := [1]) g.tr o.tr (by simp)
  rw [mulW_one' g.tr] at e
  rw [e, mulW_one' h.hs.tr] at c
  exact c
theorem right_ok (lv Bn : Nat) (m : Sto) (hm : Dm [] m Bn) (hB : Bn + 1000 ≤ 2 ^ 60) : ∃ m', callF W0 (lv + 9) 46 [.loc 0] m = .ok (.vl (.dat (.bl true))) m' ∧ Dm [] m' (Bn + 1000) := by
  obtain ⟨s1, m1, e1, h1, hm1⟩ := law_word_ok (lv + 5) Bn 3 m hm (by omega) (by decide)
  obtain ⟨x0, m2, e2, h2, hm2⟩ := law_word_ok (lv + 5) (Bn + 6) 4 m1 hm1 (by omega) (by decide)
  obtain ⟨y0, m3, e3, h3, hm3⟩ := law_word_ok (lv + 5) (Bn + 13) 3 m2 hm2 (by omega) (by decide)
  obtain ⟨r, m4, e4, r0, r1, hm4⟩ := roll_ok (lv + 7) (Bn + 19) m3 5 hm3 (by omega) (by decide) (by decide)
  have e1 : callF W0 (lv + 8) 42 [.loc 0, .dat (.int 3)] m = .ok (.vl (.dat (wd s1))) m1 := e1
  have e2 : callF W0 (lv + 8) 42 [.loc 0, .dat (.int 4)] m1 = .ok (.vl (.dat (wd x0))) m2 := e2
  have e3 : callF W0 (lv + 8) 42 [.loc 0, .dat (.int 3)] m2 = .ok (.vl (.dat (wd y0))) m3 := e3
  have t1 := timesC_ok (lv + 5) _ _ _ _ m2 s1 x0 h1 h2 (by decide) (by decide)
  have t2 := timesC_ok (lv + 5) _ _ _ _ m3 s1 y0 h1 h3 (by decide) (by decide)
  obtain ⟨A, B, hAB, s, x, y, hW, hA, hB', hs⟩ : ∃ A B, exs W0 (callF W0 (lv + 8)) m.length [.ife (.cmp .Eq (.call 27 [(.var 0), (.cst (.int 5))]) (.cst (.int 0)))
  [.set (.nm 3) (.tup [])]
  []] [some (.loc 0), some (.dat (wd s1)), some (.dat (wd (mulW s1 x0))), some (.dat (wd (mulW s1 y0))), none, none, none, none, none, none, none] m3 = .ok (.nx [some (.loc 0), some (.dat (wd s1)), some (.dat (wd A)), some (.dat (wd B)), none, none, none, none, none, none, none]) m4 ∧ ∃ s x y, Cw s x y ∧ A = mulW s x ∧ B = mulW s y ∧ (s1 ≠ [] → s = s1) := by
    have key : ∀ yy, Cd 3 4 yy → ∃ s x y, Cw s x y ∧ mulW s1 x0 = mulW s x ∧ mulW s1 yy = mulW s y ∧ (s1 ≠ [] → s = s1) := fun yy hy => by
      by_cases z : s1 = []
      · subst z
        have o : Cd 3 4 [1] := cd_one.mono (by decide) (by decide)
        have n : Cd 3 5 [] := Cd.nil _ _ (by decide)
        exact ⟨[1], [], [], ⟨o, by simp, Es.init n n (.inl (by simp)), n, n⟩, by rw [mulW_nil, mulW_nil'], by rw [mulW_nil, mulW_nil'], fun h => absurd rfl h⟩
      · have hy5 : Cd 3 5 yy := hy.mono (by decide) (by decide)
        exact ⟨s1, x0, yy, ⟨h1, z, Es.init h2 hy5 (.inl hy.ln), h2, hy5⟩, rfl, rfl, fun _ => rfl⟩
    by_cases hr : r = 0
    · subst hr
      obtain ⟨s, x, y, k1, k2, k3, k4⟩ := key [] (Cd.nil _ _ (by decide))
      refine ⟨mulW s1 x0, [], ?_, s, x, y, k1, k2, by rw [← k3, mulW_nil'], k4⟩
      simp [x_nil, x_cons, x_set, x_setT, x_par, x_ife, x_ret, x_retf, n_lst, n_call, x_newl, x_exp, bi_ok, bi_bad, of_some, lk_dat, lks_nil, lks_cons, do_nil, do_cons, op_some, ob_some, b_add, b_sub, c_lt, c_le, c_gt, c_ge, c_eqS, c_neS, c_eqI, c_neI, c_eqB, c_neB, c_eqT, c_neT, c_eqL, c_neL, c_isB, c_isntB, c_is, c_isnt, eq_int, eq_bl, eq_pair, t_bl, t_int, t_lst, t_tup, l_tup, l_lst, l_scr, l_abs, l_int, l_intB, l_max, l_min, l_tt, l_tl, l_all, l_any, l_repr, s_tup, s_lst, s_scr, i_tt, i_ii, i_ib, i_it, ix0, ix1, ix2, v_var, v_cst, v_glo, v_tup, v_lst, v_lsts, d_nil, d_star, d_one, l_max1, l_min1, l_sum, v_bin, v_neg, v_nt, v_cmp, v_chain, v_and, v_or, v_ite, v_sub, v_rev, v_call, v_blt, v_isi, v_comp, evs, evAnd, evOr, evIfs, evT, evTAnd, evTOr, parS, bi_asc, tgD, tgDs, wipeS, slotsOf, slotsOfs, szk, e4]
      rfl
    · obtain ⟨s, x, y, k1, k2, k3, k4⟩ := key y0 h3
      refine ⟨mulW s1 x0, mulW s1 y0, ?_, s, x, y, k1, k2, k3, k4⟩
      simp [x_nil, x_cons, x_set, x_setT, x_par, x_ife, x_ret, x_retf, n_lst, n_call, x_newl, x_exp, bi_ok, bi_bad, of_some, lk_dat, lks_nil, lks_cons, do_nil, do_cons, op_some, ob_some, b_add, b_sub, c_lt, c_le, c_gt, c_ge, c_eqS, c_neS, c_eqI, c_neI, c_eqB, c_neB, c_eqT, c_neT, c_eqL, c_neL, c_isB, c_isntB, c_is, c_isnt, eq_int, eq_bl, eq_pair, t_bl, t_int, t_lst, t_tup, l_tup, l_lst, l_scr, l_abs, l_int, l_intB, l_max, l_min, l_tt, l_tl, l_all, l_any, l_repr, s_tup, s_lst, s_scr, i_tt, i_ii, i_ib, i_it, ix0, ix1, ix2, v_var, v_cst, v_glo, v_tup, v_lst, v_lsts, d_nil, d_star, d_one, l_max1, l_min1, l_sum, v_bin, v_neg, v_nt, v_cmp, v_chain, v_and, v_or, v_ite, v_sub, v_rev, v_call, v_blt, v_isi, v_comp, evs, evAnd, evOr, evIfs, evT, evTAnd, evTOr, parS, bi_asc, tgD, tgDs, wipeS, slotsOf, slotsOfs, szk, e4, hr]
  subst hA hB'
  obtain ⟨w0, w1, w2, w3, w4, pp⟩ := hW.pp
  have ed := pp.d
  have cA : Cd 20 20 (mulW s x) := (hW.hs.mul hW.hx).mono (by decide) (by decide)
  have cB : Cd 20 20 (mulW s y) := (hW.hs.mul hW.hy).mono (by decide) (by decide)
  have hW' : Cw s y x := ⟨hW.hs, hW.s0, Es.init hW.hy hW.hx (by have := hW.hE.lo; have := hW.hE.lx; have := hW.hE.ly; omega), hW.hy, hW.hx⟩
  have l1 := law_common_ok (lv + 3) m4 s x y hW.hs hW.s0 hW.hE
  rw [mon_gam, ← ed, pp.f1, pp.f2] at l1
  have l2 := common_paper_ok lv m4 hW
  rw [pp.pw] at l2
  have l2 : callF W0 (lv + 8) 24 [.dat (wd (mulW s x)), .dat (wd (mulW s y))] m4 = .ok (.vl (.dat (.tup [wd w0, wd w1, wd w2, wd w3, wd w4]))) m4 := l2
  have l3 := common_ok lv m4 hW
  rw [← ed] at l3
  have l4 := common_ok lv m4 hW'
  rw [hW.swap hW', ← ed] at l4
  have cw0 : Cd 97 9 w0 := by rw [ed]; exact hW.hs.mul hW.gcd'
  obtain ⟨xr, hxr⟩ := repr_fl (wd_flC cw0 (by decide) 9 (by decide))
  have l5 := law_judge cA cB (lv + 3) m4 pp.w.ws
  rw [pp.jd] at l5
  have l6 := pp.d1 lv m4
  have l7 := pp.d2 lv m4
  have g0 : subD (.tup [wd w0, wd w1, wd w2, wd w3, wd w4]) (.int 0) = some (wd w0) := rfl
  have ec : evC W0 (callF W0 (lv + 8)) (.nm 10) .seq [(.tup [(.var 2), (.var 3)])] [] (.call 47 [(.var 10), (.var 4)]) [some (.loc 0), some (.dat (wd s1)), some (.dat (wd (mulW s x))), some (.dat (wd (mulW s y))), some (.dat (wd w0)), some (.dat (.tup [wd w3, wd w4])), some (.dat (.tup [wd w0, wd w1, wd w2, wd w3, wd w4])), none, none, none, none] m4 = .ok [wd w1, wd w2] m4 := by
    have := evC_enc (W := W0) (C := (callF W0 (lv + 8))) (s := [some (.loc 0), some (.dat (wd s1)), some (.dat (wd (mulW s x))), some (.dat (wd (mulW s y))), some (.dat (wd w0)), some (.dat (.tup [wd w3, wd w4])), some (.dat (.tup [wd w0, wd w1, wd w2, wd w3, wd w4])), none, none, none, none]) (src := [(.tup [(.var 2), (.var 3)])]) (ik := .seq) (ifs := []) (tg := .nm 10) (elt := (.call 47 [(.var 10), (.var 4)])) (ds := [.tup [wd (mulW s x), wd (mulW s y)]]) (m := m4) (vs := [.dat (.tup [wd (mulW s x), wd (mulW s y)])]) (m1 := m4) (enc := fun z : List Rat × List Rat => wd z.1) (fun z => wd z.2) [(mulW s x, w1), (mulW s y, w2)] (by simp [x_nil, x_cons, x_set, x_setT, x_par, x_ife, x_ret, x_retf, n_lst, n_call, x_newl, x_exp, bi_ok, bi_bad, of_some, lk_dat, lks_nil, lks_cons, do_nil, do_cons, op_some, ob_some, b_add, b_sub, c_lt, c_le, c_gt, c_ge, c_eqS, c_neS, c_eqI, c_neI, c_eqB, c_neB, c_eqT, c_neT, c_eqL, c_neL, c_isB, c_isntB, c_is, c_isnt, eq_int, eq_bl, eq_pair, t_bl, t_int, t_lst, t_tup, l_tup, l_lst, l_scr, l_abs, l_int, l_intB, l_max, l_min, l_tt, l_tl, l_all, l_any, l_repr, s_tup, s_lst, s_scr, i_tt, i_ii, i_ib, i_it, ix0, ix1, ix2, v_var, v_cst, v_glo, v_tup, v_lst, v_lsts, d_nil, d_star, d_one, l_max1, l_min1, l_sum, v_bin, v_neg, v_nt, v_cmp, v_chain, v_and, v_or, v_ite, v_sub, v_rev, v_call, v_blt, v_isi, v_comp, evs, evAnd, evOr, evIfs, evT, evTAnd, evTOr, parS, bi_asc, tgD, tgDs, wipeS, slotsOf, slotsOfs, szk]) (by rfl) rfl (by simp) (fun z hz => by
      refine turn0 rfl ?_
      simp at hz
      rcases hz with rfl | rfl
      · simp [x_nil, x_cons, x_set, x_setT, x_par, x_ife, x_ret, x_retf, n_lst, n_call, x_newl, x_exp, bi_ok, bi_bad, of_some, lk_dat, lks_nil, lks_cons, do_nil, do_cons, op_some, ob_some, b_add, b_sub, c_lt, c_le, c_gt, c_ge, c_eqS, c_neS, c_eqI, c_neI, c_eqB, c_neB, c_eqT, c_neT, c_eqL, c_neL, c_isB, c_isntB, c_is, c_isnt, eq_int, eq_bl, eq_pair, t_bl, t_int, t_lst, t_tup, l_tup, l_lst, l_scr, l_abs, l_int, l_intB, l_max, l_min, l_tt, l_tl, l_all, l_any, l_repr, s_tup, s_lst, s_scr, i_tt, i_ii, i_ib, i_it, ix0, ix1, ix2, v_var, v_cst, v_glo, v_tup, v_lst, v_lsts, d_nil, d_star, d_one, l_max1, l_min1, l_sum, v_bin, v_neg, v_nt, v_cmp, v_chain, v_and, v_or, v_ite, v_sub, v_rev, v_call, v_blt, v_isi, v_comp, evs, evAnd, evOr, evIfs, evT, evTAnd, evTOr, parS, bi_asc, tgD, tgDs, wipeS, slotsOf, slotsOfs, szk, wipeS, slotsOf, pp.q1 (lv + 3) m4]
      · simp [x_nil, x_cons, x_set, x_setT, x_par, x_ife, x_ret, x_retf, n_lst, n_call, x_newl, x_exp, bi_ok, bi_bad, of_some, lk_dat, lks_nil, lks_cons, do_nil, do_cons, op_some, ob_some, b_add, b_sub, c_lt, c_le, c_gt, c_ge, c_eqS, c_neS, c_eqI, c_neI, c_eqB, c_neB, c_eqT, c_neT, c_eqL, c_neL, c_isB, c_isntB, c_is, c_isnt, eq_int, eq_bl, eq_pair, t_bl, t_int, t_lst, t_tup, l_tup, l_lst, l_scr, l_abs, l_int, l_intB, l_max, l_min, l_tt, l_tl, l_all, l_any, l_repr, s_tup, s_lst, s_scr, i_tt, i_ii, i_ib, i_it, ix0, ix1, ix2, v_var, v_cst, v_glo, v_tup, v_lst, v_lsts, d_nil, d_star, d_one, l_max1, l_min1, l_sum, v_bin, v_neg, v_nt, v_cmp, v_chain, v_and, v_or, v_ite, v_sub, v_rev, v_call, v_blt, v_isi, v_comp, evs, evAnd, evOr, evIfs, evT, evTAnd, evTOr, parS, bi_asc, tgD, tgDs, wipeS, slotsOf, slotsOfs, szk, wipeS, slotsOf, pp.q2 (lv + 3) m4])
    exact this
  obtain ⟨v1, m5, e5, j5, n5, hm5⟩ := near_ok (lv + 3) (Bn + 20) m4 (mulW s x) (mulW s y) w0 w1 w2 w3 w4 cA cB pp.w hm4 (by omega)
  obtain ⟨v2, m6, e6, j6, n6, hm6⟩ := near_ok (lv + 3) (Bn + 220) m5 (mulW s x) (mulW s y) w0 w1 w2 w3 w4 cA cB pp.w hm5 (by omega)
  refine ⟨m6, ?_, hm6.mono (by omega)⟩
  rw [c_law_right]
  refine ru_dat rfl rfl rfl (by rw [hm.len, hm6.len]) ?_
  show exs W0 (callF W0 (lv + 8)) m.length b_law_right [some (.loc 0), none, none, none, none, none, none, none, none, none, none] m = _
  unfold b_law_right
  refine st1 (s' := [some (.loc 0), some (.dat (wd s1)), none, none, none, none, none, none, none, none, none]) (m' := m1) (by simp [x_nil, x_cons, x_set, x_setT, x_par, x_ife, x_ret, x_retf, n_lst, n_call, x_newl, x_exp, bi_ok, bi_bad, of_some, lk_dat, lks_nil, lks_cons, do_nil, do_cons, op_some, ob_some, b_add, b_sub, c_lt, c_le, c_gt, c_ge, c_eqS, c_neS, c_eqI, c_neI, c_eqB, c_neB, c_eqT, c_neT, c_eqL, c_neL, c_isB, c_isntB, c_is, c_isnt, eq_int, eq_bl, eq_pair, t_bl, t_int, t_lst, t_tup, l_tup, l_lst, l_scr, l_abs, l_int, l_intB, l_max, l_min, l_tt, l_tl, l_all, l_any, l_repr, s_tup, s_lst, s_scr, i_tt, i_ii, i_ib, i_it, ix0, ix1, ix2, v_var, v_cst, v_glo, v_tup, v_lst, v_lsts, d_nil, d_star, d_one, l_max1, l_min1, l_sum, v_bin, v_neg, v_nt, v_cmp, v_chain, v_and, v_or, v_ite, v_sub, v_rev, v_call, v_blt, v_isi, v_comp, evs, evAnd, evOr, evIfs, evT, evTAnd, evTOr, parS, bi_asc, tgD, tgDs, wipeS, slotsOf, slotsOfs, szk, e1]) ?_
  refine st1 (s' := [some (.loc 0), some (.dat (wd s1)), some (.dat (wd (mulW s1 x0))), some (.dat (wd (mulW s1 y0))), none, none, none, none, none, none, none]) (m' := m3) (by simp [x_nil, x_cons, x_set, x_setT, x_par, x_ife, x_ret, x_retf, n_lst, n_call, x_newl, x_exp, bi_ok, bi_bad, of_some, lk_dat, lks_nil, lks_cons, do_nil, do_cons, op_some, ob_some, b_add, b_sub, c_lt, c_le, c_gt, c_ge, c_eqS, c_neS, c_eqI, c_neI, c_eqB, c_neB, c_eqT, c_neT, c_eqL, c_neL, c_isB, c_isntB, c_is, c_isnt, eq_int, eq_bl, eq_pair, t_bl, t_int, t_lst, t_tup, l_tup, l_lst, l_scr, l_abs, l_int, l_intB, l_max, l_min, l_tt, l_tl, l_all, l_any, l_repr, s_tup, s_lst, s_scr, i_tt, i_ii, i_ib, i_it, ix0, ix1, ix2, v_var, v_cst, v_glo, v_tup, v_lst, v_lsts, d_nil, d_star, d_one, l_max1, l_min1, l_sum, v_bin, v_neg, v_nt, v_cmp, v_chain, v_and, v_or, v_ite, v_sub, v_rev, v_call, v_blt, v_isi, v_comp, evs, evAnd, evOr, evIfs, evT, evTAnd, evTOr, parS, bi_asc, tgD, tgDs, wipeS, slotsOf, slotsOfs, szk, e2, e3, t1, t2]) ?_
  refine st1 (s' := [some (.loc 0), some (.dat (wd s1)), some (.dat (wd (mulW s x))), some (.dat (wd (mulW s y))), none, none, none, none, none, none, none]) (m' := m4) (by
    rw [x_cons] at hAB
    revert hAB
    generalize exS W0 (callF W0 (lv + 8)) m.length _ _ m3 = z
    intro hAB
    cases z with
    | ok o mz =>
      cases o with
      | nx sz =>
        have : (R.ok (Out.nx sz) mz : R Out) = _ := hAB
        exact this
      | ret v => exact nomatch hAB
      | brk s => exact nomatch hAB
      | ctn s => exact nomatch hAB
    | exc x mz => exact nomatch hAB
    | bad => exact nomatch hAB) ?_
  refine st1 (s' := [some (.loc 0), some (.dat (wd s1)), some (.dat (wd (mulW s x))), some (.dat (wd (mulW s y))), some (.dat (wd w0)), some (.dat (.tup [wd w3, wd w4])), none, none, none, none, none]) (m' := m4) (by simp [x_nil, x_cons, x_set, x_setT, x_par, x_ife, x_ret, x_retf, n_lst, n_call, x_newl, x_exp, bi_ok, bi_bad, of_some, lk_dat, lks_nil, lks_cons, do_nil, do_cons, op_some, ob_some, b_add, b_sub, c_lt, c_le, c_gt, c_ge, c_eqS, c_neS, c_eqI, c_neI, c_eqB, c_neB, c_eqT, c_neT, c_eqL, c_neL, c_isB, c_isntB, c_is, c_isnt, eq_int, eq_bl, eq_pair, t_bl, t_int, t_lst, t_tup, l_tup, l_lst, l_scr, l_abs, l_int, l_intB, l_max, l_min, l_tt, l_tl, l_all, l_any, l_repr, s_tup, s_lst, s_scr, i_tt, i_ii, i_ib, i_it, ix0, ix1, ix2, v_var, v_cst, v_glo, v_tup, v_lst, v_lsts, d_nil, d_star, d_one, l_max1, l_min1, l_sum, v_bin, v_neg, v_nt, v_cmp, v_chain, v_and, v_or, v_ite, v_sub, v_rev, v_call, v_blt, v_isi, v_comp, evs, evAnd, evOr, evIfs, evT, evTAnd, evTOr, parS, bi_asc, tgD, tgDs, wipeS, slotsOf, slotsOfs, szk, l1, tgD, tgDs]) ?_
  refine st1 (s' := [some (.loc 0), some (.dat (wd s1)), some (.dat (wd (mulW s x))), some (.dat (wd (mulW s y))), some (.dat (wd w0)), some (.dat (.tup [wd w3, wd w4])), some (.dat (.tup [wd w0, wd w1, wd w2, wd w3, wd w4])), none, none, none, none]) (m' := m4) (by simp [x_nil, x_cons, x_set, x_setT, x_par, x_ife, x_ret, x_retf, n_lst, n_call, x_newl, x_exp, bi_ok, bi_bad, of_some, lk_dat, lks_nil, lks_cons, do_nil, do_cons, op_some, ob_some, b_add, b_sub, c_lt, c_le, c_gt, c_ge, c_eqS, c_neS, c_eqI, c_neI, c_eqB, c_neB, c_eqT, c_neT, c_eqL, c_neL, c_isB, c_isntB, c_is, c_isnt, eq_int, eq_bl, eq_pair, t_bl, t_int, t_lst, t_tup, l_tup, l_lst, l_scr, l_abs, l_int, l_intB, l_max, l_min, l_tt, l_tl, l_all, l_any, l_repr, s_tup, s_lst, s_scr, i_tt, i_ii, i_ib, i_it, ix0, ix1, ix2, v_var, v_cst, v_glo, v_tup, v_lst, v_lsts, d_nil, d_star, d_one, l_max1, l_min1, l_sum, v_bin, v_neg, v_nt, v_cmp, v_chain, v_and, v_or, v_ite, v_sub, v_rev, v_call, v_blt, v_isi, v_comp, evs, evAnd, evOr, evIfs, evT, evTAnd, evTOr, parS, bi_asc, tgD, tgDs, wipeS, slotsOf, slotsOfs, szk, l2]) ?_
  refine st1 (s' := [some (.loc 0), some (.dat (wd s1)), some (.dat (wd (mulW s x))), some (.dat (wd (mulW s y))), some (.dat (wd w0)), some (.dat (.tup [wd w3, wd w4])), some (.dat (.tup [wd w0, wd w1, wd w2, wd w3, wd w4])), none, none, none, none]) (m' := m4) (by simp [x_nil, x_cons, x_set, x_setT, x_par, x_ife, x_ret, x_retf, n_lst, n_call, x_newl, x_exp, bi_ok, bi_bad, of_some, lk_dat, lks_nil, lks_cons, do_nil, do_cons, op_some, ob_some, b_add, b_sub, c_lt, c_le, c_gt, c_ge, c_eqS, c_neS, c_eqI, c_neI, c_eqB, c_neB, c_eqT, c_neT, c_eqL, c_neL, c_isB, c_isntB, c_is, c_isnt, eq_int, eq_bl, eq_pair, t_bl, t_int, t_lst, t_tup, l_tup, l_lst, l_scr, l_abs, l_int, l_intB, l_max, l_min, l_tt, l_tl, l_all, l_any, l_repr, s_tup, s_lst, s_scr, i_tt, i_ii, i_ib, i_it, ix0, ix1, ix2, v_var, v_cst, v_glo, v_tup, v_lst, v_lsts, d_nil, d_star, d_one, l_max1, l_min1, l_sum, v_bin, v_neg, v_nt, v_cmp, v_chain, v_and, v_or, v_ite, v_sub, v_rev, v_call, v_blt, v_isi, v_comp, evs, evAnd, evOr, evIfs, evT, evTAnd, evTOr, parS, bi_asc, tgD, tgDs, wipeS, slotsOf, slotsOfs, szk, l3, l4, hxr, g0, ne_wd]) ?_
  refine st1 (s' := [some (.loc 0), some (.dat (wd s1)), some (.dat (wd (mulW s x))), some (.dat (wd (mulW s y))), some (.dat (wd w0)), some (.dat (.tup [wd w3, wd w4])), some (.dat (.tup [wd w0, wd w1, wd w2, wd w3, wd w4])), none, none, none, none]) (m' := m4) (by simp [x_nil, x_cons, x_set, x_setT, x_par, x_ife, x_ret, x_retf, n_lst, n_call, x_newl, x_exp, bi_ok, bi_bad, of_some, lk_dat, lks_nil, lks_cons, do_nil, do_cons, op_some, ob_some, b_add, b_sub, c_lt, c_le, c_gt, c_ge, c_eqS, c_neS, c_eqI, c_neI, c_eqB, c_neB, c_eqT, c_neT, c_eqL, c_neL, c_isB, c_isntB, c_is, c_isnt, eq_int, eq_bl, eq_pair, t_bl, t_int, t_lst, t_tup, l_tup, l_lst, l_scr, l_abs, l_int, l_intB, l_max, l_min, l_tt, l_tl, l_all, l_any, l_repr, s_tup, s_lst, s_scr, i_tt, i_ii, i_ib, i_it, ix0, ix1, ix2, v_var, v_cst, v_glo, v_tup, v_lst, v_lsts, d_nil, d_star, d_one, l_max1, l_min1, l_sum, v_bin, v_neg, v_nt, v_cmp, v_chain, v_and, v_or, v_ite, v_sub, v_rev, v_call, v_blt, v_isi, v_comp, evs, evAnd, evOr, evIfs, evT, evTAnd, evTOr, parS, bi_asc, tgD, tgDs, wipeS, slotsOf, slotsOfs, szk, l5, l6, l7]) ?_
  refine st1 (s' := [some (.loc 0), some (.dat (wd s1)), some (.dat (wd (mulW s x))), some (.dat (wd (mulW s y))), some (.dat (wd w0)), some (.dat (.tup [wd w3, wd w4])), some (.dat (.tup [wd w0, wd w1, wd w2, wd w3, wd w4])), none, none, none, none]) (m' := m4) (by
    by_cases z : s1 = []
    · simp [x_nil, x_cons, x_set, x_setT, x_par, x_ife, x_ret, x_retf, n_lst, n_call, x_newl, x_exp, bi_ok, bi_bad, of_some, lk_dat, lks_nil, lks_cons, do_nil, do_cons, op_some, ob_some, b_add, b_sub, c_lt, c_le, c_gt, c_ge, c_eqS, c_neS, c_eqI, c_neI, c_eqB, c_neB, c_eqT, c_neT, c_eqL, c_neL, c_isB, c_isntB, c_is, c_isnt, eq_int, eq_bl, eq_pair, t_bl, t_int, t_lst, t_tup, l_tup, l_lst, l_scr, l_abs, l_int, l_intB, l_max, l_min, l_tt, l_tl, l_all, l_any, l_repr, s_tup, s_lst, s_scr, i_tt, i_ii, i_ib, i_it, ix0, ix1, ix2, v_var, v_cst, v_glo, v_tup, v_lst, v_lsts, d_nil, d_star, d_one, l_max1, l_min1, l_sum, v_bin, v_neg, v_nt, v_cmp, v_chain, v_and, v_or, v_ite, v_sub, v_rev, v_call, v_blt, v_isi, v_comp, evs, evAnd, evOr, evIfs, evT, evTAnd, evTOr, parS, bi_asc, tgD, tgDs, wipeS, slotsOf, slotsOfs, szk, nen, z]
    · have es := hs z
      subst es
      have l8 := div_shared lv m4 hW
      rw [← ed] at l8
      simp [x_nil, x_cons, x_set, x_setT, x_par, x_ife, x_ret, x_retf, n_lst, n_call, x_newl, x_exp, bi_ok, bi_bad, of_some, lk_dat, lks_nil, lks_cons, do_nil, do_cons, op_some, ob_some, b_add, b_sub, c_lt, c_le, c_gt, c_ge, c_eqS, c_neS, c_eqI, c_neI, c_eqB, c_neB, c_eqT, c_neT, c_eqL, c_neL, c_isB, c_isntB, c_is, c_isnt, eq_int, eq_bl, eq_pair, t_bl, t_int, t_lst, t_tup, l_tup, l_lst, l_scr, l_abs, l_int, l_intB, l_max, l_min, l_tt, l_tl, l_all, l_any, l_repr, s_tup, s_lst, s_scr, i_tt, i_ii, i_ib, i_it, ix0, ix1, ix2, v_var, v_cst, v_glo, v_tup, v_lst, v_lsts, d_nil, d_star, d_one, l_max1, l_min1, l_sum, v_bin, v_neg, v_nt, v_cmp, v_chain, v_and, v_or, v_ite, v_sub, v_rev, v_call, v_blt, v_isi, v_comp, evs, evAnd, evOr, evIfs, evT, evTAnd, evTOr, parS, bi_asc, tgD, tgDs, wipeS, slotsOf, slotsOfs, szk, nen, z, l8]) ?_
  refine st1 (s' := [some (.loc 0), some (.dat (wd s1)), some (.dat (wd (mulW s x))), some (.dat (wd (mulW s y))), some (.dat (wd w0)), some (.dat (.tup [wd w3, wd w4])), some (.dat (.tup [wd w0, wd w1, wd w2, wd w3, wd w4])), some (.dat (.lst [wd w1, wd w2])), none, none, none]) (m' := m4) (by simp [x_nil, x_cons, x_set, x_setT, x_par, x_ife, x_ret, x_retf, n_lst, n_call, x_newl, x_exp, bi_ok, bi_bad, of_some, lk_dat, lks_nil, lks_cons, do_nil, do_cons, op_some, ob_some, b_add, b_sub, c_lt, c_le, c_gt, c_ge, c_eqS, c_neS, c_eqI, c_neI, c_eqB, c_neB, c_eqT, c_neT, c_eqL, c_neL, c_isB, c_isntB, c_is, c_isnt, eq_int, eq_bl, eq_pair, t_bl, t_int, t_lst, t_tup, l_tup, l_lst, l_scr, l_abs, l_int, l_intB, l_max, l_min, l_tt, l_tl, l_all, l_any, l_repr, s_tup, s_lst, s_scr, i_tt, i_ii, i_ib, i_it, ix0, ix1, ix2, v_var, v_cst, v_glo, v_tup, v_lst, v_lsts, d_nil, d_star, d_one, l_max1, l_min1, l_sum, v_bin, v_neg, v_nt, v_cmp, v_chain, v_and, v_or, v_ite, v_sub, v_rev, v_call, v_blt, v_isi, v_comp, evs, evAnd, evOr, evIfs, evT, evTAnd, evTOr, parS, bi_asc, tgD, tgDs, wipeS, slotsOf, slotsOfs, szk, ec]) ?_
  refine st1 (s' := [some (.loc 0), some (.dat (wd s1)), some (.dat (wd (mulW s x))), some (.dat (wd (mulW s y))), some (.dat (wd w0)), some (.dat (.tup [wd w3, wd w4])), some (.dat (.tup [wd w0, wd w1, wd w2, wd w3, wd w4])), some (.dat (.lst [wd w1, wd w2])), some (.dat (.tup [wd w0, wd w1, wd w2, wd w3, wd w4])), none, none]) (m' := m4) (by
    have i0 : subD (.lst [wd w1, wd w2]) (.int 0) = some (wd w1) := rfl
    have i1 : subD (.lst [wd w1, wd w2]) (.int 1) = some (wd w2) := rfl
    have i2 : subD (.tup [wd w3, wd w4]) (.int 0) = some (wd w3) := rfl
    have i3 : subD (.tup [wd w3, wd w4]) (.int 1) = some (wd w4) := rfl
    simp [x_nil, x_cons, x_set, x_setT, x_par, x_ife, x_ret, x_retf, n_lst, n_call, x_newl, x_exp, bi_ok, bi_bad, of_some, lk_dat, lks_nil, lks_cons, do_nil, do_cons, op_some, ob_some, b_add, b_sub, c_lt, c_le, c_gt, c_ge, c_eqS, c_neS, c_eqI, c_neI, c_eqB, c_neB, c_eqT, c_neT, c_eqL, c_neL, c_isB, c_isntB, c_is, c_isnt, eq_int, eq_bl, eq_pair, t_bl, t_int, t_lst, t_tup, l_tup, l_lst, l_scr, l_abs, l_int, l_intB, l_max, l_min, l_tt, l_tl, l_all, l_any, l_repr, s_tup, s_lst, s_scr, i_tt, i_ii, i_ib, i_it, ix0, ix1, ix2, v_var, v_cst, v_glo, v_tup, v_lst, v_lsts, d_nil, d_star, d_one, l_max1, l_min1, l_sum, v_bin, v_neg, v_nt, v_cmp, v_chain, v_and, v_or, v_ite, v_sub, v_rev, v_call, v_blt, v_isi, v_comp, evs, evAnd, evOr, evIfs, evT, evTAnd, evTOr, parS, bi_asc, tgD, tgDs, wipeS, slotsOf, slotsOfs, szk]) ?_
  rw [x_cons]
  refine bind_for (enc := fun d : D => d) (fun r st mm => ∃ x9, st = [some (.loc 0), some (.dat (wd s1)), some (.dat (wd (mulW s x))), some (.dat (wd (mulW s y))), some (.dat (wd w0)), some (.dat (.tup [wd w3, wd w4])), some (.dat (.tup [wd w0, wd w1, wd w2, wd w3, wd w4])), some (.dat (.lst [wd w1, wd w2])), some (.dat (.tup [wd w0, wd w1, wd w2, wd w3, wd w4])), x9, none] ∧ mm = m6 ∧ ∀ v ∈ r, Jv (mulW s x) (mulW s y) v) (v1 ++ v2) (vs := [.dat (.lst (v1 ++ v2))]) (ds := [.lst (v1 ++ v2)]) (m1 := m6) (by
    have cc : binD .Add (.lst v1) (.lst v2) = some (.lst (v1 ++ v2)) := a_lst (by omega)
    simp [x_nil, x_cons, x_set, x_setT, x_par, x_ife, x_ret, x_retf, n_lst, n_call, x_newl, x_exp, bi_ok, bi_bad, of_some, lk_dat, lks_nil, lks_cons, do_nil, do_cons, op_some, ob_some, b_add, b_sub, c_lt, c_le, c_gt, c_ge, c_eqS, c_neS, c_eqI, c_neI, c_eqB, c_neB, c_eqT, c_neT, c_eqL, c_neL, c_isB, c_isntB, c_is, c_isnt, eq_int, eq_bl, eq_pair, t_bl, t_int, t_lst, t_tup, l_tup, l_lst, l_scr, l_abs, l_int, l_intB, l_max, l_min, l_tt, l_tl, l_all, l_any, l_repr, s_tup, s_lst, s_scr, i_tt, i_ii, i_ib, i_it, ix0, ix1, ix2, v_var, v_cst, v_glo, v_tup, v_lst, v_lsts, d_nil, d_star, d_one, l_max1, l_min1, l_sum, v_bin, v_neg, v_nt, v_cmp, v_chain, v_and, v_or, v_ite, v_sub, v_rev, v_call, v_blt, v_isi, v_comp, evs, evAnd, evOr, evIfs, evT, evTAnd, evTOr, parS, bi_asc, tgD, tgDs, wipeS, slotsOf, slotsOfs, szk, e5, e6, cc]) rfl (by simp [walkD, itemsD]) (by simp; omega) ⟨none, rfl, rfl, fun v hv => by
    rcases List.mem_append.mp hv with h | h
    · exact j5 v h
    · exact j6 v h⟩ ?_ ?_
  · rintro v r st mm ⟨x9, rfl, rfl, hj⟩
    obtain ⟨b, k1, k2⟩ := hj v List.mem_cons_self
    obtain ⟨xb, hxb⟩ := repr_bl b
    refine ⟨[some (.loc 0), some (.dat (wd s1)), some (.dat (wd (mulW s x))), some (.dat (wd (mulW s y))), some (.dat (wd w0)), some (.dat (.tup [wd w3, wd w4])), some (.dat (.tup [wd w0, wd w1, wd w2, wd w3, wd w4])), some (.dat (.lst [wd w1, wd w2])), some (.dat (.tup [wd w0, wd w1, wd w2, wd w3, wd w4])), some (.dat v), none], mm, ?_, some (.dat v), rfl, rfl, fun z hz => hj z (List.mem_cons_of_mem _ hz)⟩
    unfold forStep
    have k1' := k1 (lv + 2) mm
    have k2' := k2 (lv + 3) mm
    simp [tgD, x_nil, x_cons, x_set, x_setT, x_par, x_ife, x_ret, x_retf, n_lst, n_call, x_newl, x_exp, bi_ok, bi_bad, of_some, lk_dat, lks_nil, lks_cons, do_nil, do_cons, op_some, ob_some, b_add, b_sub, c_lt, c_le, c_gt, c_ge, c_eqS, c_neS, c_eqI, c_neI, c_eqB, c_neB, c_eqT, c_neT, c_eqL, c_neL, c_isB, c_isntB, c_is, c_isnt, eq_int, eq_bl, eq_pair, t_bl, t_int, t_lst, t_tup, l_tup, l_lst, l_scr, l_abs, l_int, l_intB, l_max, l_min, l_tt, l_tl, l_all, l_any, l_repr, s_tup, s_lst, s_scr, i_tt, i_ii, i_ib, i_it, ix0, ix1, ix2, v_var, v_cst, v_glo, v_tup, v_lst, v_lsts, d_nil, d_star, d_one, l_max1, l_min1, l_sum, v_bin, v_neg, v_nt, v_cmp, v_chain, v_and, v_or, v_ite, v_sub, v_rev, v_call, v_blt, v_isi, v_comp, evs, evAnd, evOr, evIfs, evT, evTAnd, evTOr, parS, bi_asc, tgD, tgDs, wipeS, slotsOf, slotsOfs, szk, k1', k2', hxb]
  · rintro st mm ⟨x9, rfl, rfl, _⟩
    simp [x_nil, x_cons, x_set, x_setT, x_par, x_ife, x_ret, x_retf, n_lst, n_call, x_newl, x_exp, bi_ok, bi_bad, of_some, lk_dat, lks_nil, lks_cons, do_nil, do_cons, op_some, ob_some, b_add, b_sub, c_lt, c_le, c_gt, c_ge, c_eqS, c_neS, c_eqI, c_neI, c_eqB, c_neB, c_eqT, c_neT, c_eqL, c_neL, c_isB, c_isntB, c_is, c_isnt, eq_int, eq_bl, eq_pair, t_bl, t_int, t_lst, t_tup, l_tup, l_lst, l_scr, l_abs, l_int, l_intB, l_max, l_min, l_tt, l_tl, l_all, l_any, l_repr, s_tup, s_lst, s_scr, i_tt, i_ii, i_ib, i_it, ix0, ix1, ix2, v_var, v_cst, v_glo, v_tup, v_lst, v_lsts, d_nil, d_star, d_one, l_max1, l_min1, l_sum, v_bin, v_neg, v_nt, v_cmp, v_chain, v_and, v_or, v_ite, v_sub, v_rev, v_call, v_blt, v_isi, v_comp, evs, evAnd, evOr, evIfs, evT, evTAnd, evTOr, parS, bi_asc, tgD, tgDs, wipeS, slotsOf, slotsOfs, szk]
end K24

set_option Elab.async false
set_option linter.all false
set_option maxRecDepth 100000
set_option maxHeartbeats 2000000
set_option exponentiation.threshold 10000
namespace K24
open PySem EV POLY
theorem round4 (lv : Nat) (x0 x1 x3 : Option Vl) (m : Sto) (hm : Dm [] m 0) : ∃ x3' m', exS W0 (callF W0 (lv + 9)) 0 (.fort (.nm 3) .rng1 [(.cst (.int 4))]
  [.ife (.nt (.val (.call 46 [(.var 2)])))
  [.ret (.cst (.bl false))]
  []]) [x0, x1, some (.loc 0), x3, none, none, none] m = .ok (.nx [x0, x1, some (.loc 0), x3', none, none, none]) m' ∧ m'.length = 1 ∧ ((∀ l, x3 ≠ some (.loc l)) → ∀ l, x3' ≠ some (.loc l)) := by
  obtain ⟨s', m', e, x3', B, rfl, hm', _, h3'⟩ := for_ok (W := W0) (C := callF W0 (lv + 9)) (b := 0) (tg := .nm 3) (ik := .rng1) (src := [(.cst (.int 4))]) (vs := [.dat (.int ((4 : Nat) : Int))]) (ds := [.int ((4 : Nat) : Int)]) (enc := fun i : Nat => D.int i)
    (body := [.ife (.nt (.val (.call 46 [(.var 2)])))
  [.ret (.cst (.bl false))]
  []]) (s := [x0, x1, some (.loc 0), x3, none, none, none]) (m := m) (m1 := m)
    (fun r s mm => ∃ (x3' : Option Vl) (B : Nat), s = [x0, x1, some (.loc 0), x3', none, none, none] ∧ Dm [] mm B ∧ B + 1000 * r.length ≤ 4000 ∧ ((∀ l, x3 ≠ some (.loc l)) → ∀ l, x3' ≠ some (.loc l))) (List.range 4) rfl rfl (wd_rng1 (by decide)) (by simp) ⟨x3, 0, rfl, hm, by decide, fun h => h⟩ (by
    rintro d r s mm ⟨x3', B, rfl, hmm, hB, _⟩
    rw [List.length_cons] at hB
    obtain ⟨m2, e2, hm2⟩ := right_ok lv B mm hmm (by omega)
    refine ⟨_, m2, ?_, some (.dat (.int d)), B + 1000, rfl, hm2, by omega, by simp⟩
    unfold forStep
    simp [tgD, x_nil, x_cons, x_set, x_setT, x_par, x_ife, x_ret, x_retf, n_lst, n_call, x_newl, x_exp, bi_ok, bi_bad, of_some, lk_dat, lks_nil, lks_cons, do_nil, do_cons, op_some, ob_some, b_add, b_sub, c_lt, c_le, c_gt, c_ge, c_eqS, c_neS, c_eqI, c_neI, c_eqB, c_neB, c_eqT, c_neT, c_eqL, c_neL, c_isB, c_isntB, c_is, c_isnt, eq_int, eq_bl, eq_pair, t_bl, t_int, t_lst, t_tup, l_tup, l_lst, l_scr, l_abs, l_int, l_intB, l_max, l_min, l_tt, l_tl, l_all, l_any, l_repr, s_tup, s_lst, s_scr, i_tt, i_ii, i_ib, i_it, ix0, ix1, ix2, v_var, v_cst, v_glo, v_tup, v_lst, v_lsts, d_nil, d_star, d_one, l_max1, l_min1, l_sum, v_bin, v_neg, v_nt, v_cmp, v_chain, v_and, v_or, v_ite, v_sub, v_rev, v_call, v_blt, v_isi, v_comp, evs, evAnd, evOr, evIfs, evT, evTAnd, evTOr, parS, bi_asc, tgD, tgDs, wipeS, slotsOf, slotsOfs, szk, e2])
  exact ⟨x3', m', e, hm'.len, h3'⟩
theorem spots (lv : Nat) (ns : List Int) (k : Nat) (hk : k ≤ 6) (m : Sto) (hm : m.length = 1) (src : List Ex) (hsrc : evs W0 (callF W0 (lv + 9)) src [some (.dat (.scr (ns.map .int))), none, none, none, none, none, none] m = .ok [.dat (.int k)] m) : ∃ x1 x2 x3 m', exS W0 (callF W0 (lv + 9)) 0 (.fort (.nm 1) .rng1 src [.newl 2 0 (.call 26 [(.var 0), (.var 1)]),
  .fort (.nm 3) .rng1 [(.cst (.int 4))]
  [.ife (.nt (.val (.call 46 [(.var 2)])))
  [.ret (.cst (.bl false))]
  []]]) [some (.dat (.scr (ns.map .int))), none, none, none, none, none, none] m = .ok (.nx [some (.dat (.scr (ns.map .int))), x1, x2, x3, none, none, none]) m' ∧ m'.length = 1 := by
  obtain ⟨s', m', e, _, x1, x2, x3, rfl, h1, _, _⟩ := for_ok (W := W0) (C := callF W0 (lv + 9)) (b := 0) (tg := .nm 1) (ik := .rng1) (src := src) (vs := [.dat (.int k)]) (ds := [.int k]) (enc := fun i : Nat => D.int i)
    (body := [.newl 2 0 (.call 26 [(.var 0), (.var 1)]),
  .fort (.nm 3) .rng1 [(.cst (.int 4))]
  [.ife (.nt (.val (.call 46 [(.var 2)])))
  [.ret (.cst (.bl false))]
  []]]) (s := [some (.dat (.scr (ns.map .int))), none, none, none, none, none, none]) (m := m) (m1 := m)
    (fun r s mm => (∀ y ∈ r, y < 6) ∧ ∃ (x1 x2 x3 : Option Vl), s = [some (.dat (.scr (ns.map .int))), x1, x2, x3, none, none, none] ∧ mm.length = 1 ∧ (∀ l, x1 ≠ some (.loc l)) ∧ (∀ l, x3 ≠ some (.loc l)))
    (List.range k) hsrc rfl (wd_rng1 (by omega)) (by simp; omega) ⟨fun y hy => by simp at hy; omega, none, none, none, rfl, hm, by simp, by simp⟩ (by
    rintro i r s mm ⟨hlt, x1, x2, x3, rfl, hl, n1, n3⟩
    have hi := hlt i List.mem_cons_self
    obtain ⟨a, b, ed, db⟩ := dice_ok (lv + 8) mm ns i (by omega)
    have fr0 : EV.freeOf 0 2 0 [some (.dat (.scr (ns.map .int))), some (.dat (.int i)), x2, x3, none, none, none] = true := by
      cases x3 with
      | none => cases x2 with
        | none => rfl
        | some v => cases v <;> simp [EV.freeOf]
      | some w =>
        cases w with
        | loc l => exact absurd rfl (n3 l)
        | dat _ =>
          cases x2 with
          | none => rfl
          | some v => cases v <;> simp [EV.freeOf]
    have em : mm.set 0 (.lst [.int a, .int b, .int 0]) = dmr [] a b 0 := by
      match mm, hl with
      | [x], _ => rfl
    obtain ⟨x3', m2, e2, l2, n3'⟩ := round4 lv (some (.dat (.scr (ns.map .int)))) (some (.dat (.int i))) x3 (dmr [] a b 0) ⟨a, b, 0, rfl, db⟩
    refine ⟨[some (.dat (.scr (ns.map .int))), some (.dat (.int i)), some (.loc 0), x3', none, none, none], m2, ?_, fun y hy => hlt y (List.mem_cons_of_mem _ hy), some (.dat (.int i)), some (.loc 0), x3', rfl, l2, by simp, n3' n3⟩
    unfold forStep
    show exs W0 (callF W0 (lv + 9)) 0 _ [some (.dat (.scr (ns.map .int))), some (.dat (.int i)), x2, x3, none, none, none] mm = _
    refine st1 (s' := [some (.dat (.scr (ns.map .int))), some (.dat (.int i)), some (.loc 0), x3, none, none, none]) (m' := dmr [] a b 0) (by
      simp [x_nil, x_cons, x_set, x_setT, x_par, x_ife, x_ret, x_retf, n_lst, n_call, x_newl, x_exp, bi_ok, bi_bad, of_some, lk_dat, lks_nil, lks_cons, do_nil, do_cons, op_some, ob_some, b_add, b_sub, c_lt, c_le, c_gt, c_ge, c_eqS, c_neS, c_eqI, c_neI, c_eqB, c_neB, c_eqT, c_neT, c_eqL, c_neL, c_isB, c_isntB, c_is, c_isnt, eq_int, eq_bl, eq_pair, t_bl, t_int, t_lst, t_tup, l_tup, l_lst, l_scr, l_abs, l_int, l_intB, l_max, l_min, l_tt, l_tl, l_all, l_any, l_repr, s_tup, s_lst, s_scr, i_tt, i_ii, i_ib, i_it, ix0, ix1, ix2, v_var, v_cst, v_glo, v_tup, v_lst, v_lsts, d_nil, d_star, d_one, l_max1, l_min1, l_sum, v_bin, v_neg, v_nt, v_cmp, v_chain, v_and, v_or, v_ite, v_sub, v_rev, v_call, v_blt, v_isi, v_comp, evs, evAnd, evOr, evIfs, evT, evTAnd, evTOr, parS, bi_asc, tgD, tgDs, wipeS, slotsOf, slotsOfs, szk, ed, fr0, hl, em]) ?_
    exact st1 e2 rfl)
  exact ⟨x1, x2, x3, m', e, h1⟩
/-! ### the last part -/
def pT : List Rat := [0, 2]
def qM : Rat := ⟨-1, 3, by decide, by decide⟩
def pO : List Rat := [0, 0, 0, qM]
theorem cd_T : Cd 3 5 pT := (Cd.mono1 (c := 2) (j := 2) nb2 (by decide) 1).mono (by decide) (by decide)
theorem cd_O : Cd 3 5 pO := (Cd.mono1 (c := qM) (j := 2) ⟨-1, 3, by decide, by decide, by decide, by decide +kernel⟩ (by decide) 3).mono (by decide) (by decide)
theorem cd_5 : Cd 3 5 [5] := (Cd.mono1 (c := 5) (j := 3) ⟨5, 1, by decide, by decide, by decide, by decide +kernel⟩ (by decide) 0).mono (by decide) (by decide)
theorem cw_of {x y : List Rat} (hx : Cd 3 5 x) (hy : Cd 3 5 y) (ho : y.length ≤ 4) : Cw [1] x y := ⟨cd_one.mono (by decide) (by decide), by simp, Es.init hx hy (.inl ho), hx, hy⟩
theorem com_of (lv : Nat) (m : Sto) {x y g : List Rat} (hx : Cd 3 5 x) (hy : Cd 3 5 y) (ho : y.length ≤ 4) (hg : gam [1] x y = g) : callF W0 (lv + 8) 23 [.dat (wd x), .dat (wd y)] m = .ok (.vl (.dat (wd g))) m := by
  have c := common_ok lv m (cw_of hx hy ho)
  have gt : trim (gam [1] x y) := tr_sc _ _
  rw [mulW_one hx.tr, mulW_one hy.tr, mulW_one gt, hg] at c
  exact c
theorem law_ok (ns : List Int) (h : ns.length ≤ 63) : callF W0 40 48 [.dat (.scr (ns.map .int))] [] = .ok (.vl (.dat (.bl true))) [] := by
  show callF W0 (39 + 1) 48 _ _ = _
  rw [c_law]
  obtain ⟨k, hk, ek⟩ : ∃ k : Nat, k ≤ 6 ∧ max 1 (min 5 (ns.length : Int)) = k := ⟨max 1 (min 5 ns.length), by omega, by omega⟩
  obtain ⟨x1, x2, x3, m', e, l'⟩ := spots 30 ns k hk [.nil] rfl [(.blt .max2 [(.cst (.int 1)), (.blt .min2 [(.cst (.int 5)), (.blt .len [(.var 0)])])])] (by simp [x_nil, x_cons, x_set, x_setT, x_par, x_ife, x_ret, x_retf, n_lst, n_call, x_newl, x_exp, bi_ok, bi_bad, of_some, lk_dat, lks_nil, lks_cons, do_nil, do_cons, op_some, ob_some, b_add, b_sub, c_lt, c_le, c_gt, c_ge, c_eqS, c_neS, c_eqI, c_neI, c_eqB, c_neB, c_eqT, c_neT, c_eqL, c_neL, c_isB, c_isntB, c_is, c_isnt, eq_int, eq_bl, eq_pair, t_bl, t_int, t_lst, t_tup, l_tup, l_lst, l_scr, l_abs, l_int, l_intB, l_max, l_min, l_tt, l_tl, l_all, l_any, l_repr, s_tup, s_lst, s_scr, i_tt, i_ii, i_ib, i_it, ix0, ix1, ix2, v_var, v_cst, v_glo, v_tup, v_lst, v_lsts, d_nil, d_star, d_one, l_max1, l_min1, l_sum, v_bin, v_neg, v_nt, v_cmp, v_chain, v_and, v_or, v_ite, v_sub, v_rev, v_call, v_blt, v_isi, v_comp, evs, evAnd, evOr, evIfs, evT, evTAnd, evTOr, parS, bi_asc, tgD, tgDs, wipeS, slotsOf, slotsOfs, szk, ek])
  have n0 : Cd 3 5 [] := Cd.nil _ _ (by decide)
  have c1 := com_of 31 m' (g := [0, 1]) cd_T cd_O (by decide) (by decide +kernel)
  have c2 := com_of 31 m' (g := []) n0 n0 (by decide) (by decide +kernel)
  have c3 := com_of 31 m' (g := [0, 0, 0, 1]) n0 cd_O (by decide) (by decide +kernel)
  have c4 := com_of 31 m' (g := [1]) cd_5 cd_O (by decide) (by decide +kernel)
  have c1 : callF W0 39 23 [.dat (.tup [.tup [.int 0, .int 1], .tup [.int 2, .int 1]]), .dat (.tup [.tup [.int 0, .int 1], .tup [.int 0, .int 1], .tup [.int 0, .int 1], .tup [.int (-1), .int 3]])] m' = .ok (.vl (.dat (.tup [.tup [.int 0, .int 1], .tup [.int 1, .int 1]]))) m' := c1
  have c2 : callF W0 39 23 [.dat (.tup []), .dat (.tup [])] m' = .ok (.vl (.dat (.tup []))) m' := c2
  have c3 : callF W0 39 23 [.dat (.tup []), .dat (.tup [.tup [.int 0, .int 1], .tup [.int 0, .int 1], .tup [.int 0, .int 1], .tup [.int (-1), .int 3]])] m' = .ok (.vl (.dat (.tup [.tup [.int 0, .int 1], .tup [.int 0, .int 1], .tup [.int 0, .int 1], .tup [.int 1, .int 1]]))) m' := c3
  have c4 : callF W0 39 23 [.dat (.tup [.tup [.int 5, .int 1]]), .dat (.tup [.tup [.int 0, .int 1], .tup [.int 0, .int 1], .tup [.int 0, .int 1], .tup [.int (-1), .int 3]])] m' = .ok (.vl (.dat (.tup [.tup [.int 1, .int 1]]))) m' := c4
  obtain ⟨xr, hxr⟩ : ∃ x, reprD (.lst [.tup [.tup [.int 0, .int 1], .tup [.int 1, .int 1]], .tup [], .tup [.tup [.int 0, .int 1], .tup [.int 0, .int 1], .tup [.int 0, .int 1], .tup [.int 1, .int 1]], .tup [.tup [.int 1, .int 1]]]) = some x := repr_fl (bs := [4, 4, 2]) (by simp [Fl])
  have key : exs W0 (callF W0 39) 0 b_law [some (.dat (.scr (ns.map .int))), none, none, none, none, none, none] [.nil] = .ok (.ret (.vl (.dat (.bl true)))) m' := by
    unfold b_law
    refine st1 e ?_
    refine st1 (s' := [some (.dat (.scr (ns.map .int))), x1, x2, x3, some (.dat (.tup [.tup [.int 0, .int 1], .tup [.int 2, .int 1]])), some (.dat (.tup [.tup [.int 0, .int 1], .tup [.int 0, .int 1], .tup [.int 0, .int 1], .tup [.int (-1), .int 3]])), none]) (m' := m') (by simp [x_nil, x_cons, x_set, x_setT, x_par, x_ife, x_ret, x_retf, n_lst, n_call, x_newl, x_exp, bi_ok, bi_bad, of_some, lk_dat, lks_nil, lks_cons, do_nil, do_cons, op_some, ob_some, b_add, b_sub, c_lt, c_le, c_gt, c_ge, c_eqS, c_neS, c_eqI, c_neI, c_eqB, c_neB, c_eqT, c_neT, c_eqL, c_neL, c_isB, c_isntB, c_is, c_isnt, eq_int, eq_bl, eq_pair, t_bl, t_int, t_lst, t_tup, l_tup, l_lst, l_scr, l_abs, l_int, l_intB, l_max, l_min, l_tt, l_tl, l_all, l_any, l_repr, s_tup, s_lst, s_scr, i_tt, i_ii, i_ib, i_it, ix0, ix1, ix2, v_var, v_cst, v_glo, v_tup, v_lst, v_lsts, d_nil, d_star, d_one, l_max1, l_min1, l_sum, v_bin, v_neg, v_nt, v_cmp, v_chain, v_and, v_or, v_ite, v_sub, v_rev, v_call, v_blt, v_isi, v_comp, evs, evAnd, evOr, evIfs, evT, evTAnd, evTOr, parS, bi_asc, tgD, tgDs, wipeS, slotsOf, slotsOfs, szk, tgD, tgDs]) ?_
    refine st1 (s' := [some (.dat (.scr (ns.map .int))), x1, x2, x3, some (.dat (.tup [.tup [.int 0, .int 1], .tup [.int 2, .int 1]])), some (.dat (.tup [.tup [.int 0, .int 1], .tup [.int 0, .int 1], .tup [.int 0, .int 1], .tup [.int (-1), .int 3]])), some (.dat (.lst [.tup [.tup [.int 0, .int 1], .tup [.int 1, .int 1]], .tup [], .tup [.tup [.int 0, .int 1], .tup [.int 0, .int 1], .tup [.int 0, .int 1], .tup [.int 1, .int 1]], .tup [.tup [.int 1, .int 1]]]))]) (m' := m') (by simp [x_nil, x_cons, x_set, x_setT, x_par, x_ife, x_ret, x_retf, n_lst, n_call, x_newl, x_exp, bi_ok, bi_bad, of_some, lk_dat, lks_nil, lks_cons, do_nil, do_cons, op_some, ob_some, b_add, b_sub, c_lt, c_le, c_gt, c_ge, c_eqS, c_neS, c_eqI, c_neI, c_eqB, c_neB, c_eqT, c_neT, c_eqL, c_neL, c_isB, c_isntB, c_is, c_isnt, eq_int, eq_bl, eq_pair, t_bl, t_int, t_lst, t_tup, l_tup, l_lst, l_scr, l_abs, l_int, l_intB, l_max, l_min, l_tt, l_tl, l_all, l_any, l_repr, s_tup, s_lst, s_scr, i_tt, i_ii, i_ib, i_it, ix0, ix1, ix2, v_var, v_cst, v_glo, v_tup, v_lst, v_lsts, d_nil, d_star, d_one, l_max1, l_min1, l_sum, v_bin, v_neg, v_nt, v_cmp, v_chain, v_and, v_or, v_ite, v_sub, v_rev, v_call, v_blt, v_isi, v_comp, evs, evAnd, evOr, evIfs, evT, evTAnd, evTOr, parS, bi_asc, tgD, tgDs, wipeS, slotsOf, slotsOfs, szk, c1, c2, c3, c4]) ?_
    simp [x_nil, x_cons, x_set, x_setT, x_par, x_ife, x_ret, x_retf, n_lst, n_call, x_newl, x_exp, bi_ok, bi_bad, of_some, lk_dat, lks_nil, lks_cons, do_nil, do_cons, op_some, ob_some, b_add, b_sub, c_lt, c_le, c_gt, c_ge, c_eqS, c_neS, c_eqI, c_neI, c_eqB, c_neB, c_eqT, c_neT, c_eqL, c_neL, c_isB, c_isntB, c_is, c_isnt, eq_int, eq_bl, eq_pair, t_bl, t_int, t_lst, t_tup, l_tup, l_lst, l_scr, l_abs, l_int, l_intB, l_max, l_min, l_tt, l_tl, l_all, l_any, l_repr, s_tup, s_lst, s_scr, i_tt, i_ii, i_ib, i_it, ix0, ix1, ix2, v_var, v_cst, v_glo, v_tup, v_lst, v_lsts, d_nil, d_star, d_one, l_max1, l_min1, l_sum, v_bin, v_neg, v_nt, v_cmp, v_chain, v_and, v_or, v_ite, v_sub, v_rev, v_call, v_blt, v_isi, v_comp, evs, evAnd, evOr, evIfs, evT, evTAnd, evTOr, parS, bi_asc, tgD, tgDs, wipeS, slotsOf, slotsOfs, szk, hxr]
  have z := ru_cut (f := d_law) (vs := [.dat (.scr (ns.map .int))]) (m := []) rfl rfl key
  simpa using z
end K24

set_option Elab.async false
set_option linter.all false
set_option maxRecDepth 100000
set_option maxHeartbeats 0
open PySem PySem.W PyProof.Rows
theorem PySem.Challenge.cw_handbetween_k24_whole_common_words_holds : PySem.Challenge.rw_handbetween_k24_whole_common_words.Holds := by
  w_on; o_law; k_head; (case hw => w_witness2)
  k_fill
  refine EV.law_end (l := PySem.Challenge.rw_handbetween_k24_whole_common_words) (most := 63) (lv := 40) (k := 48) (W := K24.W0) (n := K24.n0) rfl (by decide) rfl ⟨rfl, by decide, by decide⟩ (fun w h Y => PySem.W.kIn_of Y) rfl ?F K24.law_ok
  case F =>
    intro w mg h KX G
    refine K24.tab KX G ?tf ?tc ?tb
    case tf =>
      refine ⟨?f0, ?f1, ?f2, ?f3, ?f4, ?f5, ?f6, ?f7, ?f8, ?f9, ?f10, ?f11, ?f12, ?f13, ?f14, ?f15, ?f16, ?f17, ?f18, ?f19, ?f20, ?f21, ?f22, ?f23, ?f24, ?f25, ?f26, ?f27, ?f28, ?f29, ?f30, ?f31, ?f32, ?f33, ?f34, ?f35, ?f36, ?f37, ?f38, ?f39, ?f40, ?f41, ?f42, ?f43, ?f44, ?f45, ?f46, ?f47, ?f48, trivial⟩
      (case f0 => (refine' EV.fn0 ?h1 ?h2 ?h3 ?h4 rfl); (case h1 => k_is); (case h2 => k_is); (case h3 => k_is); (case h4 => k_is))
      (case f1 => (refine' EV.fn0 ?h1 ?h2 ?h3 ?h4 rfl); (case h1 => k_is); (case h2 => k_is); (case h3 => k_is); (case h4 => k_is))
      (case f2 => (refine' EV.fn0 ?h1 ?h2 ?h3 ?h4 rfl); (case h1 => k_is); (case h2 => k_is); (case h3 => k_is); (case h4 => k_is))
      (case f3 => (refine' EV.fn0 ?h1 ?h2 ?h3 ?h4 rfl); (case h1 => k_is); (case h2 => k_is); (case h3 => k_is); (case h4 => k_is))
      (case f4 => (refine' EV.fn0 ?h1 ?h2 ?h3 ?h4 rfl); (case h1 => k_is); (case h2 => k_is); (case h3 => k_is); (case h4 => k_is))
      (case f5 => (refine' EV.fn0 ?h1 ?h2 ?h3 ?h4 rfl); (case h1 => k_is); (case h2 => k_is); (case h3 => k_is); (case h4 => k_is))
      (case f6 => (refine' EV.fn0 ?h1 ?h2 ?h3 ?h4 rfl); (case h1 => k_is); (case h2 => k_is); (case h3 => k_is); (case h4 => k_is))
      (case f7 => (refine' EV.fn0 ?h1 ?h2 ?h3 ?h4 rfl); (case h1 => k_is); (case h2 => k_is); (case h3 => k_is); (case h4 => k_is))
      (case f8 => (refine' EV.fn0 ?h1 ?h2 ?h3 ?h4 rfl); (case h1 => k_is); (case h2 => k_is); (case h3 => k_is); (case h4 => k_is))
      (case f9 => (refine' EV.fn0 ?h1 ?h2 ?h3 ?h4 rfl); (case h1 => k_is); (case h2 => k_is); (case h3 => k_is); (case h4 => k_is))
      (case f10 => (refine' EV.fn0 ?h1 ?h2 ?h3 ?h4 rfl); (case h1 => k_is); (case h2 => k_is); (case h3 => k_is); (case h4 => k_is))
      (case f11 => (refine' EV.fn0 ?h1 ?h2 ?h3 ?h4 rfl); (case h1 => k_is); (case h2 => k_is); (case h3 => k_is); (case h4 => k_is))
      (case f12 => (refine' EV.fn0 ?h1 ?h2 ?h3 ?h4 rfl); (case h1 => k_is); (case h2 => k_is); (case h3 => k_is); (case h4 => k_is))
      (case f13 => (refine' EV.fn0 ?h1 ?h2 ?h3 ?h4 rfl); (case h1 => k_is); (case h2 => k_is); (case h3 => k_is); (case h4 => k_is))
      (case f14 => (refine' EV.fn0 ?h1 ?h2 ?h3 ?h4 rfl); (case h1 => k_is); (case h2 => k_is); (case h3 => k_is); (case h4 => k_is))
      (case f15 => (refine' EV.fn0 ?h1 ?h2 ?h3 ?h4 rfl); (case h1 => k_is); (case h2 => k_is); (case h3 => k_is); (case h4 => k_is))
      (case f16 => (refine' EV.fn0 ?h1 ?h2 ?h3 ?h4 rfl); (case h1 => k_is); (case h2 => k_is); (case h3 => k_is); (case h4 => k_is))
      (case f17 => (refine' EV.fn0 ?h1 ?h2 ?h3 ?h4 rfl); (case h1 => k_is); (case h2 => k_is); (case h3 => k_is); (case h4 => k_is))
      (case f18 => (refine' EV.fn0 ?h1 ?h2 ?h3 ?h4 rfl); (case h1 => k_is); (case h2 => k_is); (case h3 => k_is); (case h4 => k_is))
      (case f19 => (refine' EV.fn0 ?h1 ?h2 ?h3 ?h4 rfl); (case h1 => k_is); (case h2 => k_is); (case h3 => k_is); (case h4 => k_is))
      (case f20 => (refine' EV.fn0 ?h1 ?h2 ?h3 ?h4 rfl); (case h1 => k_is); (case h2 => k_is); (case h3 => k_is); (case h4 => k_is))
      (case f21 => (refine' EV.fn0 ?h1 ?h2 ?h3 ?h4 rfl); (case h1 => k_is); (case h2 => k_is); (case h3 => k_is); (case h4 => k_is))
      (case f22 => (refine' EV.fn0 ?h1 ?h2 ?h3 ?h4 rfl); (case h1 => k_is); (case h2 => k_is); (case h3 => k_is); (case h4 => k_is))
      (case f23 => (refine' EV.fn0 ?h1 ?h2 ?h3 ?h4 rfl); (case h1 => k_is); (case h2 => k_is); (case h3 => k_is); (case h4 => k_is))
      (case f24 => (refine' EV.fn0 ?h1 ?h2 ?h3 ?h4 rfl); (case h1 => k_is); (case h2 => k_is); (case h3 => k_is); (case h4 => k_is))
      (case f25 => (refine' EV.fn0 ?h1 ?h2 ?h3 ?h4 rfl); (case h1 => k_is); (case h2 => k_is); (case h3 => k_is); (case h4 => k_is))
      (case f26 => (refine' EV.fn0 ?h1 ?h2 ?h3 ?h4 rfl); (case h1 => k_is); (case h2 => k_is); (case h3 => k_is); (case h4 => k_is))
      (case f27 => (refine' EV.fn0 ?h1 ?h2 ?h3 ?h4 rfl); (case h1 => k_is); (case h2 => k_is); (case h3 => k_is); (case h4 => k_is))
      (case f28 => (refine' EV.fn0 ?h1 ?h2 ?h3 ?h4 rfl); (case h1 => k_is); (case h2 => k_is); (case h3 => k_is); (case h4 => k_is))
      (case f29 => (refine' EV.fn0 ?h1 ?h2 ?h3 ?h4 rfl); (case h1 => k_is); (case h2 => k_is); (case h3 => k_is); (case h4 => k_is))
      (case f30 => (refine' EV.fn0 ?h1 ?h2 ?h3 ?h4 rfl); (case h1 => k_is); (case h2 => k_is); (case h3 => k_is); (case h4 => k_is))
      (case f31 => (refine' EV.fn0 ?h1 ?h2 ?h3 ?h4 rfl); (case h1 => k_is); (case h2 => k_is); (case h3 => k_is); (case h4 => k_is))
      (case f32 => (refine' EV.fn0 ?h1 ?h2 ?h3 ?h4 rfl); (case h1 => k_is); (case h2 => k_is); (case h3 => k_is); (case h4 => k_is))
      (case f33 => (refine' EV.fn0 ?h1 ?h2 ?h3 ?h4 rfl); (case h1 => k_is); (case h2 => k_is); (case h3 => k_is); (case h4 => k_is))
      (case f34 => (refine' EV.fn0 ?h1 ?h2 ?h3 ?h4 rfl); (case h1 => k_is); (case h2 => k_is); (case h3 => k_is); (case h4 => k_is))
      (case f35 => (refine' EV.fn0 ?h1 ?h2 ?h3 ?h4 rfl); (case h1 => k_is); (case h2 => k_is); (case h3 => k_is); (case h4 => k_is))
      (case f36 => (refine' EV.fn0 ?h1 ?h2 ?h3 ?h4 rfl); (case h1 => k_is); (case h2 => k_is); (case h3 => k_is); (case h4 => k_is))
      (case f37 => (refine' EV.fn0 ?h1 ?h2 ?h3 ?h4 rfl); (case h1 => k_is); (case h2 => k_is); (case h3 => k_is); (case h4 => k_is))
      (case f38 => (refine' EV.fn0 ?h1 ?h2 ?h3 ?h4 rfl); (case h1 => k_is); (case h2 => k_is); (case h3 => k_is); (case h4 => k_is))
      (case f39 => (refine' EV.fn0 ?h1 ?h2 ?h3 ?h4 rfl); (case h1 => k_is); (case h2 => k_is); (case h3 => k_is); (case h4 => k_is))
      (case f40 => (refine' EV.fn0 ?h1 ?h2 ?h3 ?h4 rfl); (case h1 => k_is); (case h2 => k_is); (case h3 => k_is); (case h4 => k_is))
      (case f41 => (refine' EV.fn0 ?h1 ?h2 ?h3 ?h4 rfl); (case h1 => k_is); (case h2 => k_is); (case h3 => k_is); (case h4 => k_is))
      (case f42 => (refine' EV.fn0 ?h1 ?h2 ?h3 ?h4 rfl); (case h1 => k_is); (case h2 => k_is); (case h3 => k_is); (case h4 => k_is))
      (case f43 => (refine' EV.fn0 ?h1 ?h2 ?h3 ?h4 rfl); (case h1 => k_is); (case h2 => k_is); (case h3 => k_is); (case h4 => k_is))
      (case f44 => (refine' EV.fn0 ?h1 ?h2 ?h3 ?h4 rfl); (case h1 => k_is); (case h2 => k_is); (case h3 => k_is); (case h4 => k_is))
      (case f45 => (refine' EV.fn0 ?h1 ?h2 ?h3 ?h4 rfl); (case h1 => k_is); (case h2 => k_is); (case h3 => k_is); (case h4 => k_is))
      (case f46 => (refine' EV.fn0 ?h1 ?h2 ?h3 ?h4 rfl); (case h1 => k_is); (case h2 => k_is); (case h3 => k_is); (case h4 => k_is))
      (case f47 => (refine' EV.fn0 ?h1 ?h2 ?h3 ?h4 rfl); (case h1 => k_is); (case h2 => k_is); (case h3 => k_is); (case h4 => k_is))
      (case f48 => (refine' EV.fn0 ?h1 ?h2 ?h3 ?h4 rfl); (case h1 => k_is); (case h2 => k_is); (case h3 => k_is); (case h4 => k_is))
    case tc =>
      refine ⟨?c0, ?c1, ?c2, ?c3, trivial⟩
      (case c0 => (refine' EV.con_mk ?h1 ?h2); (case h1 => k_is); (case h2 => (refine' EV.RdV.tup ?h3 ?h4 (by decide)); (case h3 => k_is); (case h4 => exact (.cons .int (.cons .int .nil)))))
      (case c1 => (refine' EV.con_mk ?h1 ?h2); (case h1 => k_is); (case h2 => (refine' EV.RdV.tup ?h3 ?h4 (by decide)); (case h3 => k_is); (case h4 => exact (.cons .int (.cons .int .nil)))))
      (case c2 => (refine' EV.con_mk ?h1 ?h2); (case h1 => k_is); (case h2 => exact .int))
      (case c3 => (refine' EV.con_mk ?h1 ?h2); (case h1 => k_is); (case h2 => (refine' EV.RdV.tup ?h3 ?h4 (by decide)); (case h3 => k_is); (case h4 => exact (.cons (.tup (by k_is) (.cons .int (.cons .int .nil)) (by decide)) .nil))))
    case tb =>
      refine ⟨?b0, ?b1, ?b2, ?b3, ?b4, ?b5, ?b6, ?b7, ?b8, ?b9, ?b10, ?b11, ?b12, ?b13, trivial⟩
      (case b0 => (refine' EV.no_mk ?h1); (case h1 => k_is))
      (case b1 => (refine' EV.no_mk ?h1); (case h1 => k_is))
      (case b2 => (refine' EV.no_mk ?h1); (case h1 => k_is))
      (case b3 => (refine' EV.no_mk ?h1); (case h1 => k_is))
      (case b4 => (refine' EV.no_mk ?h1); (case h1 => k_is))
      (case b5 => (refine' EV.no_mk ?h1); (case h1 => k_is))
      (case b6 => (refine' EV.no_mk ?h1); (case h1 => k_is))
      (case b7 => (refine' EV.no_mk ?h1); (case h1 => k_is))
      (case b8 => (refine' EV.no_mk ?h1); (case h1 => k_is))
      (case b9 => (refine' EV.no_mk ?h1); (case h1 => k_is))
      (case b10 => (refine' EV.no_mk ?h1); (case h1 => k_is))
      (case b11 => (refine' EV.no_mk ?h1); (case h1 => k_is))
      (case b12 => (refine' EV.no_mk ?h1); (case h1 => k_is))
      (case b13 => (refine' EV.no_mk ?h1); (case h1 => k_is))
#print axioms PySem.Challenge.cw_handbetween_k24_whole_common_words_holds
