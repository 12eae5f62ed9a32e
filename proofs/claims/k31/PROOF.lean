import PyProof.Rows.All
import Wide.All
import OpenK.AllK
import Wide.FinOn
import KE.KStateDown
import PyProof.EqLayable
import PyProof.MinMaxWalk
import HandS.ForMost
import HandS.ForExc
import HandS.More
import HandS.Defaults
import HandS.IsInst
import HandS.TupAny
import HandS.CallSlots
import HandS.Deep
import HandS.TupMul
import HandS.Style
import HandS.HeadHook1
import HandS.TupSets
import HandS.SetTxt0
import HandS.SetFor
import HandS.Set
import HandS.Strs
import HandS.Head0
import HandS.Head1
import HandS.Head2
import HandS.HeadEnd
import HandS.HeadHook2
import HandS.HeadHook4
import PySem.Challenge.RW_wordfinds_k31_least_in_parts
set_option Elab.async false
set_option linter.all false
set_option maxRecDepth 100000
set_option maxHeartbeats 0
set_option autoImplicit false
/-! The core language: values, the store, terms, the evaluator. No program and no model in sight but for the data equality of the library. -/
namespace Wf
open PySem

abbrev Txt := List Nat
/-- values: loc n is the n-th object of the store (lists, dicts, instances that change); tup and lst are data that never change -/
inductive PV where
  | non
  | bl (b : Bool)
  | int (i : Int)
  | str (x : Txt)
  | tup (xs : List PV)
  | lst (xs : List PV)
  | scr (xs : List PV)
  | loc (n : Nat)
  | fn (i : Nat)
  | clo (i : Nat) (cap : List PV)
  | exc (c : Nat)
  deriving Repr, Inhabited

inductive SObj where
  | lst (xs : List PV)
  | ins (c : Nat) (fs : List (Nat × PV))
  | dK (lock : Bool) (kvs : List (Txt × PV))
  | dN (lock : Bool) (kvs : List (PV × PV))
  deriving Repr, Inhabited
abbrev Store := List SObj
abbrev Slots := List (Option PV)

/-- how an evaluation ends: with a value, with an exception of a class, or nothing is known -/
inductive R (α : Type) where
  | ok (a : α) (st : Store)
  | exc (c : Nat) (st : Store)
  | no
def R.bind {α β : Type} (r : R α) (f : α → Store → R β) : R β := match r with
  | .ok a st => f a st
  | .exc c st => .exc c st
  | .no => .no
@[simp] theorem R.bind_ok {α β : Type} (a : α) (st : Store) (f : α → Store → R β) : (R.ok a st).bind f = f a st := (rfl)
@[simp] theorem R.bind_exc {α β : Type} (c : Nat) (st : Store) (f : α → Store → R β) : (R.exc c st : R α).bind f = .exc c st := (rfl)
@[simp] theorem R.bind_no {α β : Type} (f : α → Store → R β) : (R.no : R α).bind f = .no := (rfl)
def R.of {α : Type} (o : Option α) (st : Store) : R α := match o with
  | some a => .ok a st
  | none => .no
@[simp] theorem R.of_some {α : Type} (a : α) (st : Store) : R.of (some a) st = .ok a st := (rfl)
@[simp] theorem R.of_none {α : Type} (st : Store) : R.of (none : Option α) st = .no := (rfl)

inductive Op where
  | add | sub | mul | fdiv | mod | pow | eq | ne | lt | le | gt | ge | in_ | nin | is_ | isn
  deriving Repr, DecidableEq, Inhabited
inductive Ty where
  | int | bool | str | tuple
  deriving Repr, DecidableEq, Inhabited
inductive B1 where
  | len | all | any | tuple | list | int | str | max | min | sum | sortedSet | sorted
  deriving Repr, DecidableEq, Inhabited
inductive B2 where
  | max | min
  deriving Repr, DecidableEq, Inhabited
inductive M1 where
  | count | join | index | append | extend | split
  deriving Repr, DecidableEq, Inhabited
inductive Tg where
  | one (i : Nat)
  | many (is : List Nat)
  deriving Repr, DecidableEq, Inhabited

mutual
inductive CE where
  | cst (v : PV)
  | var (i : Nat)
  | tup (es : CEs)
  | lst (es : CEs)
  | newl (es : CEs)
  | newcat (a b : CE)
  | mapp (o a : CE)
  | mext (o a : CE)
  | op (o : Op) (a b : CE)
  | chain (o o2 : Op) (a b c : CE)
  | and_ (a b : CE)
  | or_ (a b : CE)
  | not_ (a : CE)
  | neg (a : CE)
  | ite (c a b : CE)
  | ix (a b : CE)
  | sl (a : CE) (lo hi : CEo)
  | rev (a : CE)
  | srt (a : CE)
  | call (f : Nat) (es : CEs)
  | b1 (b : B1) (a : CE)
  | b2 (b : B2) (a c : CE)
  | m1 (m : M1) (o a : CE)
  | isi (a : CE) (t : Ty)
  | comp (elt : CE) (tg : Tg) (src : CI) (cond : CEo) (vs : List Nat)
  | comp2 (elt : CE) (i : Nat) (src : CI) (j : Nat) (src2 : CI) (vs : List Nat)
  | dsub (ks : List Txt) (vs : CEs) (k : CE)
inductive CEs where
  | nil
  | cons (e : CE) (r : CEs)
inductive CEo where
  | none
  | some (e : CE)
inductive CI where
  | seq (e : CE)
  | enum (e : CE)
  | zip (a b : CE)
  | rng (e : CE)
end
inductive CS where
  | skip
  | seq (a b : CS)
  | expr (e : CE)
  | set (i : Nat) (e : CE)
  | setT (is : List Nat) (e : CE)
  | par (i j : Nat) (a b : CE)
  | par3 (i j k : Nat) (a b c : CE)
  | ixset (o i e : CE)
  | if_ (c : CE) (a b : CS)
  | for_ (tg : Tg) (src : CI) (body : CS)
  | while_ (c : CE) (body : CS)
  | ret (e : CE)
  | raise_ (c : Nat)

/-! ### data -/
mutual
def PV.data : PV → Option PyData
  | .non => some .none
  | .bl b => some (.bool b)
  | .int i => some (.int i)
  | .str x => some (.str ⟨x.toArray⟩)
  | .tup xs => (PV.datas xs).map .tuple
  | .lst xs => (PV.datas xs).map .list
  | .scr xs => (PV.datas xs).map .list
  | .loc _ => none
  | .fn _ => none
  | .clo _ _ => none
  | .exc _ => none
def PV.datas : List PV → Option (List PyData)
  | [] => some []
  | v :: vs => match PV.data v, PV.datas vs with
    | some d, some ds => some (d :: ds)
    | _, _ => none
end
/-- the items of a list, whichever it is -/
def listOf (st : Store) : PV → Option (List PV)
  | .lst xs => some xs
  | .loc n => match st[n]? with
    | some (.lst xs) => some xs
    | _ => none
  | _ => none
def dataOf (st : Store) (v : PV) : Option PyData := match v with
  | .loc n => match st[n]? with
    | some (.lst xs) => (PV.datas xs).map .list
    | _ => none
  | v => v.data
/-- == by data -/
def eqP (st : Store) (a b : PV) : Option Bool := match a, b with
  | .str x, .str y => some (decide (x = y))
  | .int i, .int j => some (decide (i = j))
  | .bl i, .bl j => some (decide (i = j))
  | a, b => match dataOf st a, dataOf st b with
    | some d, some e => if SeqAt.shaped d = true ∧ SeqAt.shaped e = true then some (PyData.eqv d e) else none
    | _, _ => none
def SL : Nat := 16777216

/-- the flat values: in over lists and tuples -/
def flatP : PV → Bool
  | .str _ => true
  | .int _ => true
  | .bl _ => true
  | .non => true
  | _ => false
def flatEq : PV → PV → Bool
  | .str x, .str y => decide (x = y)
  | .int i, .int j => decide (i = j)
  | .bl i, .bl j => decide (i = j)
  | .non, .non => true
  | .bl b, .int i => decide ((if b then 1 else 0) = i)
  | .int i, .bl b => decide ((if b then 1 else 0) = i)
  | _, _ => false
/-- is a needle within a text -/
def infixB (needle : Txt) : Txt → Bool
  | [] => needle.isEmpty
  | c :: r => needle.isPrefixOf (c :: r) || infixB needle r
def seqOf (st : Store) : PV → Option (List PV)
  | .tup xs => some xs
  | .scr xs => some xs
  | v => listOf st v
def inP (st : Store) (x y : PV) : Option Bool := match x, y with
  | .str a, .str b => some (infixB a b)
  | x, y => match seqOf st y with
    | some ys => if flatP x = true ∧ ys.all flatP = true then some (ys.any fun z => flatEq z x) else
        match dataOf st x, listOf st y with
        | some d, some zs => match PV.datas zs with
          | some es => if SeqAt.shaped d = true ∧ SeqAt.shaped (.list es) = true then some (es.any fun e => PyData.eqv e d) else none
          | none => none
        | _, _ => none
    | none => none
def isP (x y : PV) : Option Bool := match y with
  | .non => some (match x with | .non => true | _ => false)
  | .bl b => match x with
    | .bl c => some (decide (c = b))
    | .non => some false
    | _ => none
  | _ => none
def mulOk (i j : Int) : Bool := (decide (-(2 ^ 64) < i) && decide (i < 2 ^ 64)) || (decide (-(2 ^ 64) < j) && decide (j < 2 ^ 64))
def opP (st : Store) (o : Op) (x y : PV) : Option PV := match o with
  | .add => match x, y with
    | .int i, .int j => some (.int (i + j))
    | .str a, .str b => if a.length + b.length ≤ SL then some (.str (a ++ b)) else none
    | .tup a, .tup b => if a.length + b.length ≤ SL then some (.tup (a ++ b)) else none
    | x, y => match listOf st x, listOf st y with
      | some a, some b => if a.length + b.length ≤ SL then some (.lst (a ++ b)) else none
      | _, _ => none
  | .sub => match x, y with
    | .int i, .int j => some (.int (i - j))
    | _, _ => none
  | .mul => match x, y with
    | .int i, .int j => if mulOk i j then some (.int (i * j)) else none
    | .str a, .int j => if 0 ≤ j ∧ j ≤ 1000 ∧ a.length ≤ 1000 then some (.str (List.replicate j.toNat a).flatten) else none
    | .tup a, .int j => if 2 ≤ j ∧ j ≤ 1000 ∧ a.length ≤ 1000 ∧ a.isEmpty = false then some (.tup (List.replicate j.toNat a).flatten) else none
    | _, _ => none
  | .fdiv => match x, y with
    | .int i, .int j => if 0 < j ∧ j < 1073741824 then some (.int (i / j)) else none
    | _, _ => none
  | .mod => match x, y with
    | .int i, .int j => if 0 < j then some (.int (i % j)) else none
    | _, _ => none
  | .pow => match x, y with
    | .int i, .int j => if 0 ≤ j ∧ j ≤ 1000000 ∧ i.natAbs < 2 ^ 64 then some (.int (i ^ j.toNat)) else none
    | _, _ => none
  | .eq => (eqP st x y).map .bl
  | .ne => (eqP st x y).map fun b => .bl (!b)
  | .lt => match x, y with
    | .int i, .int j => some (.bl (decide (i < j)))
    | _, _ => none
  | .le => match x, y with
    | .int i, .int j => some (.bl (decide (i ≤ j)))
    | _, _ => none
  | .gt => match x, y with
    | .int i, .int j => some (.bl (decide (j < i)))
    | _, _ => none
  | .ge => match x, y with
    | .int i, .int j => some (.bl (decide (j ≤ i)))
    | _, _ => none
  | .in_ => (inP st x y).map .bl
  | .nin => (inP st x y).map fun b => .bl (!b)
  | .is_ => (isP x y).map .bl
  | .isn => (isP x y).map fun b => .bl (!b)

/-- an item by a place that may count from the end -/
def atP {α : Type} (xs : List α) (i : Int) : Option α :=
  if 0 ≤ i then xs[i.toNat]? else if -(xs.length : Int) ≤ i then xs[(i + xs.length).toNat]? else none
def ixP (st : Store) (x y : PV) : Option PV := match y with
  | .int i => match x with
    | .tup xs => atP xs i
    | .scr xs => atP xs i
    | .str a => if a.length ≤ SL then (atP a i).map fun c => .str [c] else none
    | x => match listOf st x with
      | some xs => atP xs i
      | none => none
  | _ => none
def clampI (n : Nat) (i : Int) : Nat := if 0 ≤ i then min i.toNat n else (i + n).toNat
def bound (n d : Nat) : Option PV → Option Nat
  | none => some d
  | some (.int i) => some (clampI n i)
  | some _ => none
def cutL {α : Type} (xs : List α) (lo hi : Nat) : List α := (xs.drop lo).take (hi - lo)
def slP (st : Store) (x : PV) (lo hi : Option PV) : Option PV := match x with
  | .tup xs => match bound xs.length 0 lo, bound xs.length xs.length hi with
    | some a, some b => some (.tup (cutL xs a b))
    | _, _ => none
  | .str xs => if xs.length ≤ SL then match bound xs.length 0 lo, bound xs.length xs.length hi with
      | some a, some b => some (.str (cutL xs a b))
      | _, _ => none
    else none
  | x => match listOf st x with
    | some xs => match bound xs.length 0 lo, bound xs.length xs.length hi with
      | some a, some b => some (.lst (cutL xs a b))
      | _, _ => none
    | none => none
def boolsOf : List PV → Option (List Bool)
  | [] => some []
  | .bl b :: r => (boolsOf r).map (b :: ·)
  | _ :: _ => none
def intsOf : List PV → Option (List Int)
  | [] => some []
  | .int b :: r => (intsOf r).map (b :: ·)
  | _ :: _ => none
def strsOf : List PV → Option (List Txt)
  | [] => some []
  | .str b :: r => (strsOf r).map (b :: ·)
  | _ :: _ => none
def maxI (is : List Int) : Option Int := match is with
  | [] => none
  | i :: r => (i :: r)[argBest (fun a b => decide ((i :: r).getD b 0 < (i :: r).getD a 0)) r.length]?
def b1P (st : Store) (b : B1) (x : PV) : Option PV := match b with
  | .len => match x with
    | .str a => if a.length ≤ SL then some (.int a.length) else none
    | x => (seqOf st x).map fun xs => .int xs.length
  | .all => match listOf st x with
    | some xs => (boolsOf xs).map fun bs => .bl (bs.all id)
    | none => none
  | .any => match listOf st x with
    | some xs => (boolsOf xs).map fun bs => .bl (bs.any id)
    | none => none
  | .tuple => match x with
    | .tup xs => some (.tup xs)
    | x => (listOf st x).map .tup
  | .list => (seqOf st x).map .lst
  | .int => match x with
    | .bl b => some (.int (if b then 1 else 0))
    | .int i => some (.int i)
    | _ => none
  | .str => none
  | .max => match listOf st x with
    | some xs => match intsOf xs with
      | some is => (maxI is).map .int
      | none => none
    | none => none
  | .min => none
  | .sum => none
  | .sortedSet => none
  | .sorted => none
def b2P (b : B2) (x y : PV) : Option PV := match b, x, y with
  | .max, .int i, .int j => some (.int (if j > i then j else i))
  | .min, .int i, .int j => some (.int (if j < i then j else i))
  | _, _, _ => none
def joinT (sep : Txt) : List Txt → Txt
  | [] => []
  | [x] => x
  | x :: r => x ++ sep ++ joinT sep r
def sumLen : List Txt → Nat
  | [] => 0
  | x :: r => x.length + sumLen r
def isStr : PV → Bool
  | .str _ => true
  | _ => false
def isLst (st : Store) : PV → Bool
  | .loc n => match st[n]? with
    | some (.lst _) => true
    | _ => false
  | _ => false
def m1P (st : Store) (m : M1) (o x : PV) : Option PV := match m with
  | .count => match o, x with
    | .str a, .str [c] => some (.int (a.count c : Nat))
    | _, _ => none
  | .join => match o, seqOf st x with
    | .str sep, some xs => match strsOf xs with
      | some ts => if sumLen ts + ts.length * sep.length ≤ 16777216 then some (.str (joinT sep ts)) else none
      | none => none
    | _, _ => none
  | .index => none
  | .append => none
  | .extend => none
  | .split => none
def ltT : Txt → Txt → Bool
  | [], [] => false
  | [], _ :: _ => true
  | _ :: _, [] => false
  | a :: r, b :: t => a < b || (a == b && ltT r t)
/-- into its place, once -/
def insT (x : Txt) : List Txt → List Txt
  | [] => [x]
  | y :: r => if x = y then y :: r else if ltT x y then x :: y :: r else y :: insT x r
def sortU (ts : List Txt) : List Txt := ts.foldr insT []
def textsIn (st : Store) : PV → Option (List Txt)
  | .str t => some (t.map fun c => [c])
  | x => match listOf st x with
    | some xs => strsOf xs
    | none => none
/-- sorted(set(x)) of texts -/
def srtP (st : Store) (x : PV) : Option PV := match textsIn st x with
  | some ts => if (sortU ts).length < 64 then some (.lst ((sortU ts).map .str)) else none
  | none => none
def isiP (x : PV) (t : Ty) : Option Bool := match x with
  | .int _ => some (match t with | .int => true | _ => false)
  | .bl _ => some (match t with | .int => true | .bool => true | _ => false)
  | .str _ => some (match t with | .str => true | _ => false)
  | .tup _ => some (match t with | .tuple => true | _ => false)
  | .non => some false
  | .lst _ => some false
  | _ => none
def asg (tg : Tg) (v : PV) (ps : Slots) : Option Slots := match tg with
  | .one i => some (ps.set i (some v))
  | .many is => match v with
    | .tup xs => if xs.length = is.length then some ((is.zip xs).foldl (fun q p => q.set p.1 (some p.2)) ps) else none
    | _ => none
/-- what a loop walks: data, a list of the store (its present items), that and data side by side -/
inductive Src where
  | vals (xs : List PV)
  | locl (n : Nat)
  | zipl (n : Nat) (ys : List PV)
def Src.next (s : Src) (i : Nat) (st : Store) : Option (Option PV) := match s with
  | .vals xs => some xs[i]?
  | .locl n => match st[n]? with
    | some (.lst xs) => some xs[i]?
    | _ => none
  | .zipl n ys => match st[n]? with
    | some (.lst xs) => some (match xs[i]?, ys[i]? with
      | some a, some b => some (.tup [a, b])
      | _, _ => none)
    | _ => none
def Src.len (s : Src) (st : Store) : Nat := match s with
  | .vals xs => xs.length
  | .locl n => match st[n]? with
    | some (.lst xs) => xs.length
    | _ => 0
  | .zipl n _ => match st[n]? with
    | some (.lst xs) => xs.length
    | _ => 0
def seqSrc (st : Store) : PV → Option Src
  | .tup xs => some (.vals xs)
  | .lst xs => some (.vals xs)
  | .str x => if x.length ≤ SL then some (.vals (x.map fun c => .str [c])) else none
  | .loc n => match st[n]? with
    | some (.lst _) => some (.locl n)
    | _ => none
  | _ => none
def wipeP (ps : Slots) : List Nat → Slots
  | [] => ps
  | v :: vs => (wipeP ps vs).set v none
inductive Fl where
  | next (ps : Slots)
  | ret (v : PV)
/-- a comprehension's loop -/
def compL (src : Src) (turn : PV → Store → R (Option PV)) : Nat → Nat → List PV → Store → R PV
  | 0, _, _, _ => .no
  | k + 1, i, acc, st => match src.next i st with
    | none => .no
    | some none => .ok (.lst acc) st
    | some (some v) => (turn v st).bind fun o st1 => match o with
      | none => compL src turn k (i + 1) acc st1
      | some y => if acc.length < SL then compL src turn k (i + 1) (acc ++ [y]) st1 else .no
/-- what a comprehension with two fors gathers in a turn of the outer one -/
def compL2 (src : Src) (turn : PV → Store → R PV) : Nat → Nat → List PV → Store → R (List PV)
  | 0, _, _, _ => .no
  | k + 1, i, acc, st => match src.next i st with
    | none => .no
    | some none => .ok acc st
    | some (some v) => (turn v st).bind fun y st1 => if acc.length < SL then compL2 src turn k (i + 1) (acc ++ [y]) st1 else .no
def compL1 (src : Src) (turn : PV → List PV → Store → R (List PV)) : Nat → Nat → List PV → Store → R PV
  | 0, _, _, _ => .no
  | k + 1, i, acc, st => match src.next i st with
    | none => .no
    | some none => .ok (.lst acc) st
    | some (some v) => (turn v acc st).bind fun acc1 st1 => compL1 src turn k (i + 1) acc1 st1
def forL (src : Src) (turn : PV → Slots → Store → R Fl) : Nat → Nat → Slots → Store → R Fl
  | 0, _, _, _ => .no
  | k + 1, i, ps, st => match src.next i st with
    | none => .no
    | some none => .ok (.next ps) st
    | some (some v) => (turn v ps st).bind fun f st1 => match f with
      | .next ps1 => forL src turn k (i + 1) ps1 st1
      | .ret v => .ok (.ret v) st1
def whileL (test : Slots → Store → R PV) (body : Slots → Store → R Fl) : Nat → Slots → Store → R Fl
  | 0, _, _ => .no
  | k + 1, ps, st => (test ps st).bind fun c st1 => match c with
    | .bl true => (body ps st1).bind fun f st2 => match f with
      | .next ps1 => whileL test body k ps1 st2
      | .ret v => .ok (.ret v) st2
    | .bl false => .ok (.next ps) st1
    | _ => .no
/-- an exception does not leave a comprehension -/
def R.calm {α : Type} : R α → R α
  | .exc _ _ => .no
  | r => r

def compTurn (tg : Tg) (ps0 : Slots) (elt : Slots → Store → R PV) (cond : Option (Slots → Store → R PV)) (v : PV) (st : Store) : R (Option PV) := match asg tg v ps0 with
  | none => .no
  | some qs => match cond with
    | none => (elt qs st).calm.bind fun y st3 => .ok (some y) st3
    | some c => (c qs st).calm.bind fun b st3 => match b with
      | .bl true => (elt qs st3).calm.bind fun y st4 => .ok (some y) st4
      | .bl false => .ok none st3
      | _ => .no
abbrev Orc := Nat → List PV → Store → R PV
mutual
def ev (C : Orc) (ps : Slots) : CE → Store → R PV
  | .cst v, st => .ok v st
  | .var i, st => match ps[i]? with
    | some (some v) => .ok v st
    | _ => .no
  | .tup es, st => (evs C ps es st).bind fun vs st1 => if vs.length ≤ SL then .ok (.tup vs) st1 else .no
  | .lst es, st => (evs C ps es st).bind fun vs st1 => if vs.length ≤ SL then .ok (.lst vs) st1 else .no
  | .newl es, st => (evs C ps es st).bind fun vs st1 => if vs.length ≤ SL then .ok (.loc st1.length) (st1 ++ [.lst vs]) else .no
  | .newcat a b, st => (ev C ps a st).bind fun x st1 => (ev C ps b st1).bind fun y st2 => match listOf st2 x, listOf st2 y with
    | some xs, some ys => if xs.length + ys.length ≤ SL then .ok (.loc st2.length) (st2 ++ [.lst (xs ++ ys)]) else .no
    | _, _ => .no
  | .mapp o a, st => (ev C ps o st).bind fun x st1 => if isLst st1 x = true then (ev C ps a st1).bind fun y st2 => match x with
      | .loc n => match st2[n]? with
        | some (.lst xs) => if xs.length < SL then .ok .non (st2.set n (.lst (xs ++ [y]))) else .no
        | _ => .no
      | _ => .no
    else .no
  | .mext o a, st => (ev C ps o st).bind fun x st1 => if isLst st1 x = true then (ev C ps a st1).bind fun y st2 => match x, y with
      | .loc n, .lst ys => match st2[n]? with
        | some (.lst xs) => if xs.length + ys.length ≤ SL then .ok .non (st2.set n (.lst (xs ++ ys))) else .no
        | _ => .no
      | _, _ => .no
    else .no
  | .op o a b, st => (ev C ps a st).bind fun x st1 => (ev C ps b st1).bind fun y st2 => R.of (opP st2 o x y) st2
  | .chain o o2 a b c, st => (ev C ps a st).bind fun x st1 => (ev C ps b st1).bind fun y st2 => match opP st2 o x y with
    | some (.bl true) => (ev C ps c st2).bind fun z st3 => R.of (opP st3 o2 y z) st3
    | some (.bl false) => .ok (.bl false) st2
    | _ => .no
  | .and_ a b, st => (ev C ps a st).bind fun x st1 => match x with
    | .bl true => ev C ps b st1
    | .bl false => .ok (.bl false) st1
    | _ => .no
  | .or_ a b, st => (ev C ps a st).bind fun x st1 => match x with
    | .bl true => .ok (.bl true) st1
    | .bl false => ev C ps b st1
    | _ => .no
  | .not_ a, st => (ev C ps a st).bind fun x st1 => match x with
    | .bl b => .ok (.bl (!b)) st1
    | _ => .no
  | .neg a, st => (ev C ps a st).bind fun x st1 => match x with
    | .int i => .ok (.int (-i)) st1
    | _ => .no
  | .ite c a b, st => (ev C ps c st).bind fun x st1 => match x with
    | .bl true => ev C ps a st1
    | .bl false => ev C ps b st1
    | _ => .no
  | .ix a b, st => (ev C ps a st).bind fun x st1 => (ev C ps b st1).bind fun y st2 => R.of (ixP st2 x y) st2
  | .sl a lo hi, st => (ev C ps a st).bind fun x st1 => (evo C ps lo st1).bind fun l st2 => (evo C ps hi st2).bind fun h st3 => R.of (slP st3 x l h) st3
  | .rev a, st => (ev C ps a st).bind fun x st1 => match x with
    | .str t => if t.length ≤ SL then .ok (.str t.reverse) st1 else .no
    | _ => .no
  | .srt a, st => (ev C ps a st).bind fun x st1 => R.of (srtP st1 x) st1
  | .call f es, st => (evs C ps es st).bind fun vs st1 => C f vs st1
  | .b1 b a, st => (ev C ps a st).bind fun x st1 => R.of (b1P st1 b x) st1
  | .b2 b a c, st => (ev C ps a st).bind fun x st1 => (ev C ps c st1).bind fun y st2 => R.of (b2P b x y) st2
  | .m1 m o a, st => (ev C ps o st).bind fun x st1 => if isStr x = true then (ev C ps a st1).bind fun y st2 => R.of (m1P st2 m x y) st2 else .no
  | .isi a t, st => (ev C ps a st).bind fun x st1 => R.of ((isiP x t).map .bl) st1
  | .comp elt tg src cond vs, st => (evi C ps src st).bind fun s st1 =>
      compL s (compTurn tg (wipeP ps vs) (fun qs st2 => ev C qs elt st2) (match cond with
        | .none => none
        | .some c => some fun qs st2 => ev C qs c st2)) (s.len st1 + 1) 0 [] st1
  | .comp2 elt i src j src2 vs, st => (evi C ps src st).bind fun s st1 =>
      compL1 s (fun v acc st2 => (evi C ((wipeP ps vs).set i (some v)) src2 st2).calm.bind fun s2 st3 =>
        compL2 s2 (fun u st4 => (ev C (((wipeP ps vs).set i (some v)).set j (some u)) elt st4).calm) (s2.len st3 + 1) 0 acc st3) (s.len st1 + 1) 0 [] st1
  | .dsub ks vs k, st => (evs C ps vs st).calm.bind fun us st1 => if ks.length = us.length then (ev C ps k st1).bind fun x st2 => match x with
      | .str t => R.of ((ks.zip us).lookup t) st2
      | _ => .no
    else .no
def evs (C : Orc) (ps : Slots) : CEs → Store → R (List PV)
  | .nil, st => .ok [] st
  | .cons e r, st => (ev C ps e st).bind fun v st1 => (evs C ps r st1).bind fun vs st2 => .ok (v :: vs) st2
def evo (C : Orc) (ps : Slots) : CEo → Store → R (Option PV)
  | .none, st => .ok none st
  | .some e, st => (ev C ps e st).bind fun v st1 => match v with
    | .int i => .ok (some (.int i)) st1
    | _ => .no
def evi (C : Orc) (ps : Slots) : CI → Store → R Src
  | .seq e, st => (ev C ps e st).bind fun v st1 => R.of (seqSrc st1 v) st1
  | .enum e, st => (ev C ps e st).bind fun v st1 => match v with
    | .str x => if x.length ≤ SL then .ok (.vals (x.mapIdx fun i c => .tup [.int i, .str [c]])) st1 else .no
    | _ => .no
  | .zip a b, st => (ev C ps a st).bind fun x st1 => (ev C ps b st1).bind fun y st2 => match x, y with
    | .loc n, .tup ys => match st2[n]? with
      | some (.lst _) => .ok (.zipl n ys) st2
      | _ => .no
    | _, _ => .no
  | .rng e, st => (ev C ps e st).bind fun v st1 => match v with
    | .int j => if -(2 ^ 62) ≤ j ∧ j < 2 ^ 62 then .ok (.vals ((List.range j.toNat).map fun k => .int (k : Nat))) st1 else .no
    | _ => .no
end
def evc (C : Orc) : CEo → Option (Slots → Store → R PV)
  | .none => none
  | .some c => some fun qs st2 => ev C qs c st2
theorem ev_comp (C : Orc) (ps : Slots) (elt : CE) (tg : Tg) (src : CI) (cond : CEo) (vs : List Nat) (st : Store) : ev C ps (.comp elt tg src cond vs) st = (evi C ps src st).bind fun s st1 =>
    compL s (compTurn tg (wipeP ps vs) (fun qs st2 => ev C qs elt st2) (evc C cond)) (s.len st1 + 1) 0 [] st1 := by
  cases cond <;> simp only [ev, evc]
def setP (st : Store) (o i v : PV) : Option Store := match o, i with
  | .loc n, .int k => match st[n]? with
    | some (.lst xs) => if 0 ≤ k ∧ k < xs.length then some (st.set n (.lst (xs.set k.toNat v))) else none
    | _ => none
  | _, _ => none
def ex (C : Orc) (W : Nat) : CS → Slots → Store → R Fl
  | .skip, ps, st => .ok (.next ps) st
  | .seq a b, ps, st => (ex C W a ps st).bind fun f st1 => match f with
    | .next ps1 => ex C W b ps1 st1
    | .ret v => .ok (.ret v) st1
  | .expr e, ps, st => (ev C ps e st).bind fun _ st1 => .ok (.next ps) st1
  | .set i e, ps, st => (ev C ps e st).bind fun v st1 => .ok (.next (ps.set i (some v))) st1
  | .setT is e, ps, st => (ev C ps e st).bind fun v st1 => match asg (.many is) v ps with
    | some qs => .ok (.next qs) st1
    | none => .no
  | .par i j a b, ps, st => (ev C ps a st).bind fun x st1 => (ev C ps b st1).bind fun y st2 => .ok (.next ((ps.set i (some x)).set j (some y))) st2
  | .par3 i j k a b c, ps, st => (ev C ps a st).bind fun x st1 => (ev C ps b st1).bind fun y st2 => (ev C ps c st2).bind fun z st3 => .ok (.next (((ps.set i (some x)).set j (some y)).set k (some z))) st3
  | .ixset o i e, ps, st => (ev C ps e st).bind fun v st1 => (ev C ps o st1).bind fun x st2 => (ev C ps i st2).bind fun y st3 => match setP st3 x y v with
    | some st4 => .ok (.next ps) st4
    | none => .no
  | .if_ c a b, ps, st => (ev C ps c st).bind fun x st1 => match x with
    | .bl true => ex C W a ps st1
    | .bl false => ex C W b ps st1
    | _ => .no
  | .for_ tg src body, ps, st => (evi C ps src st).bind fun s st1 =>
      forL s (fun v qs st2 => match asg tg v qs with
        | some rs => ex C W body rs st2
        | none => .no) (s.len st1 + 1) 0 ps st1
  | .while_ c body, ps, st => whileL (fun qs st1 => ev C qs c st1) (fun qs st1 => ex C W body qs st1) W ps st
  | .ret e, ps, st => (ev C ps e st).bind fun v st1 => .ok (.ret v) st1
  | .raise_ c, _, st => .exc c st
/-- a def: how many parameters, how many slots, its body -/
structure FDef where
  np : Nat
  ns : Nat
  body : CS
mutual
def PV.under (n : Nat) : PV → Bool
  | .tup xs => PV.unders n xs
  | .lst xs => PV.unders n xs
  | .scr xs => PV.unders n xs
  | .clo _ xs => PV.unders n xs
  | .loc k => decide (k < n)
  | .non => true
  | .bl _ => true
  | .int _ => true
  | .str _ => true
  | .fn _ => true
  | .exc _ => true
def PV.unders (n : Nat) : List PV → Bool
  | [] => true
  | v :: vs => PV.under n v && PV.unders n vs
end
def SObj.under (n : Nat) : SObj → Bool
  | .lst xs => PV.unders n xs
  | .ins _ fs => fs.all fun p => p.2.under n
  | .dK _ kvs => kvs.all fun p => p.2.under n
  | .dN _ kvs => kvs.all fun p => p.1.under n && p.2.under n
/-- behind a call: what it has made is forgotten where nothing holds it -/
def trunc (n : Nat) (v : PV) (st : Store) : Store :=
  if st.length ≤ n then st else if v.under n && (st.take n).all (SObj.under n) then st.take n else st
def truncE (n : Nat) (st : Store) : Store :=
  if st.length ≤ n then st else if (st.take n).all (SObj.under n) then st.take n else st
def startP (d : FDef) (args : List PV) : Slots := args.map some ++ List.replicate (d.ns - d.np) none
def runBody (C : Orc) (W : Nat) (d : FDef) (args : List PV) (st : Store) : R PV :=
  if args.length = d.np then match ex C W d.body (startP d args) st with
    | .ok (.ret v) st1 => .ok v (trunc st.length v st1)
    | .ok (.next _) st1 => .ok .non (trunc st.length .non st1)
    | .exc c st1 => .exc c (truncE st.length st1)
    | .no => .no
  else .no
/-- calls to a depth -/
def run (T : Nat → Option FDef) (W : Nat) : Nat → Orc
  | 0, _, _, _ => .no
  | n + 1, f, args, st => match T f with
    | some d => runBody (run T W n) W d args st
    | none => .no
end Wf
/-! How the core's values, store and slots stand in the layer's abstract heap. -/
namespace Wf
open PySem PySem.Spec PyProof.Rows L2

/-- a tuple of the module -/
def KTup (K : PySem.W.Frag) (a : Addr) (vs : List V) : Prop := ∃ (o : Obj) (its : Array Value) (n : Nat), K.lookup a = some o ∧ o.cls = .type "tuple" ∧ o.data = .seq its n ∧ its.size ≤ sizeLine ∧ Vals vs its.toList
/-- where the store's objects stand, and what nobody may name: the lists that comprehensions are making -/
structure Fm where
  l : List Addr
  z : List Addr
def Fm.bar (f : Fm) : List Addr := f.l ++ f.z
def Fm.snoc (f : Fm) (p : Addr) : Fm := ⟨f.l ++ [p], f.z⟩
def Fm.priv (f : Fm) (p : Addr) : Fm := ⟨f.l, p :: f.z⟩
theorem Fm.notL {f : Fm} {a : Addr} (h : a ∉ f.bar) : a ∉ f.l := fun z => h (List.mem_append.mpr (.inl z))
theorem Fm.notZ {f : Fm} {a : Addr} (h : a ∉ f.bar) : a ∉ f.z := fun z => h (List.mem_append.mpr (.inr z))
theorem Fm.notBar {f : Fm} {a : Addr} (h1 : a ∉ f.l) (h2 : a ∉ f.z) : a ∉ f.bar := fun z => (List.mem_append.mp z).elim h1 h2
/-- a list of the module -/
def KLst (K : PySem.W.Frag) (a : Addr) (vs : List V) : Prop := ∃ (o : Obj) (its : Array Value) (n : Nat), K.lookup a = some o ∧ o.cls = .type "list" ∧ o.dict = none ∧ o.data = .seq its n ∧ its.size ≤ sizeLine ∧ Vals vs its.toList
mutual
inductive Rep (K : PySem.W.Frag) (f : Fm) (H : Hp) : PV → V → Prop
  | non : Rep K f H .non .non
  | bl (b : Bool) : Rep K f H (.bl b) (.bl b)
  | int (i : Int) : Rep K f H (.int i) (.int i)
  | str (x : Txt) : Rep K f H (.str x) (.str ⟨x.toArray⟩)
  | tup {a : Addr} {xs : List PV} {vs : List V} : Rd H a (.tup vs) → a ∉ f.bar → Reps K f H xs vs → Rep K f H (.tup xs) (.ref a)
  | tupK {a : Addr} {xs : List PV} {vs : List V} : KTup K a vs → Reps K f H xs vs → Rep K f H (.tup xs) (.ref a)
  | lst {a : Addr} {xs : List PV} {vs : List V} : Rd H a (.lst vs) → a ∉ f.bar → Reps K f H xs vs → Rep K f H (.lst xs) (.ref a)
  | scr {a : Addr} {xs : List PV} {vs : List V} : Rd H a (.lst vs) → a ∉ f.bar → Reps K f H xs vs → Rep K f H (.scr xs) (.ref a)
  | scrK {a : Addr} {xs : List PV} {vs : List V} : KLst K a vs → Reps K f H xs vs → Rep K f H (.scr xs) (.ref a)
  | loc {a : Addr} {n : Nat} : f.l[n]? = some a → Rep K f H (.loc n) (.ref a)
inductive Reps (K : PySem.W.Frag) (f : Fm) (H : Hp) : List PV → List V → Prop
  | nil : Reps K f H [] []
  | cons {x : PV} {xs : List PV} {v : V} {vs : List V} : Rep K f H x v → Reps K f H xs vs → Reps K f H (x :: xs) (v :: vs)
end
/-- from one state to a later one: what does not change stands, new objects of the store are new -/
structure Tr (f : Fm) (H : Hp) (f' : Fm) (H' : Hp) : Prop where
  ext : ∃ g, f'.l = f.l ++ g ∧ ∀ p ∈ g, H p = none
  zz : f'.z = f.z
  keep : ∀ a o, H a = some o → a ∉ f.l → H' a = some o
  live : ∀ a, H' a = none → H a = none
theorem Tr.refl (f : Fm) (H : Hp) : Tr f H f H := ⟨⟨[], by simp, by simp⟩, rfl, fun _ _ e _ => e, fun _ e => e⟩
theorem Tr.out {f f' : Fm} {H H' : Hp} (t : Tr f H f' H') {a : Addr} {o : HO} (e : H a = some o) (n : a ∉ f.l) : a ∉ f'.l := fun z => by
  obtain ⟨g, eg, hg⟩ := t.ext
  rw [eg] at z
  rcases List.mem_append.mp z with z | z
  · exact n z
  · rw [hg a z] at e; cases e
theorem Tr.trans {f f1 f2 : Fm} {H H1 H2 : Hp} (a : Tr f H f1 H1) (b : Tr f1 H1 f2 H2) : Tr f H f2 H2 := by
  obtain ⟨g, eg, hg⟩ := a.ext
  obtain ⟨g2, eg2, hg2⟩ := b.ext
  refine ⟨⟨g ++ g2, by rw [eg2, eg]; simp, fun p hp => ?_⟩, b.zz.trans a.zz, fun c o e n => b.keep c o (a.keep c o e n) (a.out e n), fun p e => a.live p (b.live p e)⟩
  rcases List.mem_append.mp hp with h | h
  · exact hg p h
  · exact a.live p (hg2 p h)
/-- a new thing that does not change -/
theorem Tr.new {f : Fm} {H : Hp} {p : Addr} {o : HO} (h : H p = none) : Tr f H f (upd H p o) :=
  ⟨⟨[], by simp, by simp⟩, rfl, fun a u e _ => by rw [upd_ne (ne_of_none e h)]; exact e, fun a e => by
    by_cases q : a = p
    · subst q; exact h
    · rw [upd_ne q] at e; exact e⟩
/-- a new object of the store -/
theorem Tr.newLoc {f : Fm} {H : Hp} {p : Addr} {o : HO} (h : H p = none) : Tr f H (f.snoc p) (upd H p o) :=
  ⟨⟨[p], rfl, by simpa using h⟩, rfl, (Tr.new (f := f) h).keep, (Tr.new (f := f) h).live⟩
/-- an object of the store is written -/
theorem Tr.write {f : Fm} {H : Hp} {p : Addr} {o : HO} (h : p ∈ f.l) (hl : H p ≠ none) : Tr f H f (upd H p o) :=
  ⟨⟨[], by simp, by simp⟩, rfl, fun a u e n => by
    rw [upd_ne (fun q => n (by rw [q]; exact h))]; exact e, fun a e => by
    by_cases q : a = p
    · subst q; rw [upd_same] at e; cases e
    · rw [upd_ne q] at e; exact e⟩
theorem rd_tr {f f' : Fm} {H H' : Hp} {a : Addr} {u : HO} (t : Tr f H f' H') (h : Rd H a u) (n : a ∉ f.bar) : Rd H' a u ∧ a ∉ f'.bar := by
  rcases h with h | ⟨o, h⟩
  · exact ⟨.inl (t.keep a _ h (Fm.notL n)), Fm.notBar (t.out h (Fm.notL n)) (by rw [t.zz]; exact Fm.notZ n)⟩
  · exact ⟨.inr ⟨o, t.keep a _ h (Fm.notL n)⟩, Fm.notBar (t.out h (Fm.notL n)) (by rw [t.zz]; exact Fm.notZ n)⟩
mutual
theorem Rep.tr {K : PySem.W.Frag} {f f' : Fm} {H H' : Hp} (t : Tr f H f' H') : ∀ {x : PV} {v : V}, Rep K f H x v → Rep K f' H' x v
  | _, _, .non => .non
  | _, _, .bl b => .bl b
  | _, _, .int i => .int i
  | _, _, .str x => .str x
  | _, _, .tup h n r => .tup (rd_tr t h n).1 (rd_tr t h n).2 (Reps.tr t r)
  | _, _, .tupK h r => .tupK h (Reps.tr t r)
  | _, _, .lst h n r => .lst (rd_tr t h n).1 (rd_tr t h n).2 (Reps.tr t r)
  | _, _, .scr h n r => .scr (rd_tr t h n).1 (rd_tr t h n).2 (Reps.tr t r)
  | _, _, .scrK h r => .scrK h (Reps.tr t r)
  | _, _, .loc h => .loc (by
      obtain ⟨g, eg, hg⟩ := t.ext
      rw [eg, List.getElem?_append_left (List.getElem?_eq_some_iff.mp h).1]
      exact h)
theorem Reps.tr {K : PySem.W.Frag} {f f' : Fm} {H H' : Hp} (t : Tr f H f' H') : ∀ {x : List PV} {v : List V}, Reps K f H x v → Reps K f' H' x v
  | _, _, .nil => .nil
  | _, _, .cons a b => .cons (Rep.tr t a) (Reps.tr t b)
end
/-- an object of the store -/
def ORep (K : PySem.W.Frag) (f : Fm) (H : Hp) (a : Addr) : SObj → Prop
  | .lst xs => ∃ vs, H a = some (.lst vs) ∧ Reps K f H xs vs
  | _ => False
/-- the store -/
structure StOk (K : PySem.W.Frag) (f : Fm) (H : Hp) (st : Store) : Prop where
  len : f.l.length = st.length
  nd : f.l.Nodup
  obj : ∀ (n : Nat) (a : Addr) (o : SObj), f.l[n]? = some a → st[n]? = some o → ORep K f H a o
  zl : ∀ a ∈ f.z, H a ≠ none ∧ a ∉ f.l
structure SlOk (K : PySem.W.Frag) (f : Fm) (H : Hp) (ps : Slots) (σ : L2.St) : Prop where
  len : ps.length = σ.length
  at_ : ∀ (i : Nat) (x : PV), ps[i]? = some (some x) → ∃ v, σ[i]? = some (some v) ∧ Rep K f H x v
theorem SlOk.tr {K : PySem.W.Frag} {f f' : Fm} {H H' : Hp} {ps : Slots} {σ : L2.St} {st' : Store} (s : SlOk K f H ps σ) (t : Tr f H f' H') (o : StOk K f' H' st') : SlOk K f' H' ps σ :=
  ⟨s.len, fun i x e => let ⟨v, h1, h2⟩ := s.at_ i x e; ⟨v, h1, h2.tr t⟩⟩
section
variable {K : PySem.W.Frag} {f f' : Fm} {H H' : Hp} {st : Store}
theorem ORep.live {a : Addr} {o : SObj} (h : ORep K f H a o) : H a ≠ none := by
  cases o with
  | lst xs => obtain ⟨vs, e, _⟩ := h; rw [e]; simp
  | _ => exact h.elim
theorem StOk.liv (s : StOk K f H st) : ∀ a ∈ f.l, H a ≠ none := fun a ha => by
  obtain ⟨n, hn, e⟩ := List.mem_iff_getElem.mp ha
  have hn2 : n < st.length := by rw [← s.len]; exact hn
  exact (s.obj n a st[n] (by rw [List.getElem?_eq_getElem hn, e]) (List.getElem?_eq_getElem hn2)).live
theorem StOk.notIn (s : StOk K f H st) {p : Addr} (h : H p = none) : p ∉ f.bar := fun z => by
  rcases List.mem_append.mp z with z | z
  · exact s.liv p z h
  · exact (s.zl p z).1 h
theorem ORep.tr {a : Addr} {o : SObj} (h : ORep K f H a o) (t : Tr f H f' H') (e : H' a = H a) : ORep K f' H' a o := by
  cases o with
  | lst xs => obtain ⟨vs, e1, r⟩ := h; exact ⟨vs, e.trans e1, r.tr t⟩
  | _ => exact h.elim
/-- the objects of the store stand as they stood -/
theorem StOk.same (s : StOk K f H st) (t : Tr f H f H') (e : ∀ a ∈ f.l, H' a = H a) : StOk K f H' st :=
  ⟨s.len, s.nd, fun n a o h1 h2 => (s.obj n a o h1 h2).tr t (e a (List.mem_of_getElem? h1)), fun a ha => ⟨fun q => (s.zl a ha).1 (t.live a q), (s.zl a ha).2⟩⟩
theorem StOk.new (s : StOk K f H st) {p : Addr} {o : HO} (h : H p = none) : StOk K f (upd H p o) st :=
  s.same (Tr.new h) fun a ha => upd_ne fun q => Fm.notL (s.notIn h) (by rw [← q]; exact ha)
theorem StOk.newLoc (s : StOk K f H st) {p : Addr} {o : HO} {so : SObj} (h : H p = none) (ho : ORep K (f.snoc p) (upd H p o) p so) : StOk K (f.snoc p) (upd H p o) (st ++ [so]) := by
  have hp := s.notIn h
  have t : Tr f H (f.snoc p) (upd H p o) := Tr.newLoc h
  refine ⟨by simp [Fm.snoc, s.len], ?_, fun n a o' h1 h2 => ?_, fun a ha => ⟨fun q => (s.zl a ha).1 (t.live a q), fun q => ?_⟩⟩
  · show (f.l ++ [p]).Nodup
    rw [List.nodup_append]
    refine ⟨s.nd, by simp, fun a ha b hb => ?_⟩
    rw [List.mem_singleton.mp hb]
    intro q
    exact Fm.notL hp (by rw [← q]; exact ha)
  · have h1 : (f.l ++ [p])[n]? = some a := h1
    by_cases hn : n < f.l.length
    · rw [List.getElem?_append_left hn] at h1
      rw [List.getElem?_append_left (by rw [← s.len]; exact hn)] at h2
      have ha := List.mem_of_getElem? h1
      exact (s.obj n a o' h1 h2).tr t (upd_ne fun q => Fm.notL hp (by rw [← q]; exact ha))
    · have e : n = f.l.length := by
        have := (List.getElem?_eq_some_iff.mp h1).1
        simp at this
        omega
      subst e
      rw [List.getElem?_append_right (Nat.le_refl _)] at h1
      rw [s.len, List.getElem?_append_right (Nat.le_refl _)] at h2
      simp at h1 h2
      subst h1 h2
      exact ho
  · rcases List.mem_append.mp q with q | q
    · exact (s.zl a ha).2 q
    · rw [List.mem_singleton.mp q] at ha
      exact Fm.notZ hp ha
theorem StOk.write (s : StOk K f H st) {n : Nat} {p : Addr} {o : HO} {so : SObj} (h : f.l[n]? = some p) (ho : ORep K f (upd H p o) p so) : StOk K f (upd H p o) (st.set n so) := by
  have hp : p ∈ f.l := List.mem_of_getElem? h
  have t : Tr f H f (upd H p o) := Tr.write hp (s.liv p hp)
  refine ⟨by simp [s.len], s.nd, fun m a o' h1 h2 => ?_, fun a ha => ⟨fun q => (s.zl a ha).1 (t.live a q), (s.zl a ha).2⟩⟩
  by_cases e : m = n
  · subst e
    rw [h] at h1; cases h1
    have : m < st.length := by rw [← s.len]; exact (List.getElem?_eq_some_iff.mp h).1
    rw [List.getElem?_set_self this] at h2
    cases h2
    exact ho
  · rw [List.getElem?_set_ne (Ne.symm e)] at h2
    refine (s.obj m a o' h1 h2).tr t (upd_ne fun q => e ?_)
    subst q
    obtain ⟨i1, e1⟩ := List.getElem?_eq_some_iff.mp h1
    obtain ⟨i2, e2⟩ := List.getElem?_eq_some_iff.mp h
    exact (List.getElem_inj s.nd).mp (e1.trans e2.symm)
/-- slots -/
theorem SlOk.set {ps : Slots} {σ : L2.St} (s : SlOk K f H ps σ) {i : Nat} {x : PV} {v : V} (r : Rep K f H x v) : SlOk K f H (ps.set i (some x)) (σ.set i (some v)) := by
  refine ⟨by simp [s.len], fun j y e => ?_⟩
  by_cases hj : i = j
  · subst hj
    by_cases hl : i < ps.length
    · rw [List.getElem?_set_self hl] at e
      cases e
      exact ⟨v, List.getElem?_set_self (by rw [← s.len]; exact hl), r⟩
    · rw [List.getElem?_eq_none (by simp; omega)] at e
      cases e
  · rw [List.getElem?_set_ne hj] at e
    obtain ⟨v', h1, h2⟩ := s.at_ j y e
    exact ⟨v', by rw [List.getElem?_set_ne hj]; exact h1, h2⟩
theorem SlOk.unset {ps : Slots} {σ : L2.St} (s : SlOk K f H ps σ) {i : Nat} {o : Option V} : SlOk K f H (ps.set i none) (σ.set i o) := by
  refine ⟨by simp [s.len], fun j y e => ?_⟩
  by_cases hj : i = j
  · subst hj
    by_cases hl : i < ps.length
    · rw [List.getElem?_set_self hl] at e
      cases e
    · rw [List.getElem?_eq_none (by simp; omega)] at e
      cases e
  · rw [List.getElem?_set_ne hj] at e
    obtain ⟨v', h1, h2⟩ := s.at_ j y e
    exact ⟨v', by rw [List.getElem?_set_ne hj]; exact h1, h2⟩
theorem SlOk.wipe {ps : Slots} {σ : L2.St} (s : SlOk K f H ps σ) : ∀ vs : List Nat, SlOk K f H (wipeP ps vs) (L2.wipe σ vs)
  | [] => s
  | v :: vs => by
    unfold wipeP L2.wipe
    exact (SlOk.wipe s vs).unset
theorem Reps.length : ∀ {xs : List PV} {vs : List V}, Reps K f H xs vs → xs.length = vs.length
  | _, _, .nil => rfl
  | _, _, .cons _ b => by simp [Reps.length b]
theorem Reps.get : ∀ {xs : List PV} {vs : List V} {i : Nat} {x : PV}, Reps K f H xs vs → xs[i]? = some x → ∃ v, vs[i]? = some v ∧ Rep K f H x v
  | _, _, _, _, .nil, e => by simp at e
  | _, _, 0, _, .cons r _, e => by simp at e; subst e; exact ⟨_, rfl, r⟩
  | _, _, i + 1, x, .cons _ t, e => by
    obtain ⟨u, h1, h2⟩ := Reps.get (i := i) (x := x) t (by simpa using e)
    exact ⟨u, by simpa using h1, h2⟩
theorem Reps.getV : ∀ {xs : List PV} {vs : List V} {i : Nat} {v : V}, Reps K f H xs vs → vs[i]? = some v → ∃ x, xs[i]? = some x ∧ Rep K f H x v
  | _, _, _, _, .nil, e => by simp at e
  | _, _, 0, _, .cons r _, e => by simp at e; subst e; exact ⟨_, rfl, r⟩
  | _, _, i + 1, x, .cons _ t, e => by
    obtain ⟨u, h1, h2⟩ := Reps.getV (i := i) (v := x) t (by simpa using e)
    exact ⟨u, by simpa using h1, h2⟩
theorem Reps.append : ∀ {xs ys : List PV} {us ws : List V}, Reps K f H xs us → Reps K f H ys ws → Reps K f H (xs ++ ys) (us ++ ws)
  | _, _, _, _, .nil, s => s
  | _, _, _, _, .cons r t, s => .cons r (Reps.append t s)
theorem Reps.take : ∀ {xs : List PV} {us : List V} (n : Nat), Reps K f H xs us → Reps K f H (xs.take n) (us.take n)
  | _, _, 0, _ => .nil
  | _, _, _ + 1, .nil => .nil
  | _, _, n + 1, .cons r t => .cons r (Reps.take n t)
theorem Reps.drop : ∀ {xs : List PV} {us : List V} (n : Nat), Reps K f H xs us → Reps K f H (xs.drop n) (us.drop n)
  | _, _, 0, r => r
  | _, _, _ + 1, .nil => .nil
  | _, _, n + 1, .cons _ t => Reps.drop n t
theorem Reps.set {x : PV} {v : V} (r : Rep K f H x v) : ∀ {xs : List PV} {us : List V} (i : Nat), Reps K f H xs us → Reps K f H (xs.set i x) (us.set i v)
  | _, _, _, .nil => .nil
  | _, _, 0, .cons _ t => .cons r t
  | _, _, i + 1, .cons q t => .cons q (Reps.set r i t)
end
/-! ### a new thing that does not change -/
section
variable {K : PySem.W.Frag} {f : Fm} {H : Hp} {st : Store}
theorem Rep.newTup {xs : List PV} {vs : List V} (s : StOk K f H st) {p : Addr} (h : H p = none) (r : Reps K f H xs vs) : Rep K f (upd H p (.tup vs)) (.tup xs) (.ref p) :=
  .tup (.inl upd_same) (s.notIn h) (r.tr (Tr.new h))
theorem Rep.newLst {xs : List PV} {vs : List V} (s : StOk K f H st) {p : Addr} (h : H p = none) (r : Reps K f H xs vs) : Rep K f (upd H p (.lst vs)) (.lst xs) (.ref p) :=
  .lst (.inl upd_same) (s.notIn h) (r.tr (Tr.new h))
end
end Wf
/-! The operators of the core, by the layer's rules. -/
namespace Wf
open PySem PySem.Spec PyProof.Rows L2

theorem SL_eq : SL = sizeLine := by rw [sizeLine_eq]; rfl
def Post {α : Type} (K : PySem.W.Frag) (cv : Nat → Value) (f : Fm) (H : Hp) (X : Value → Hp → Prop) (r : R α) (k : α → Store → Fm → Hp → Prop) : Prop := match r with
  | .ok a st' => ∀ f' H', Tr f H f' H' → StOk K f' H' st' → k a st' f' H'
  | .exc c st' => ∀ f' H', Tr f H f' H' → StOk K f' H' st' → X (cv c) H'
  | .no => False
section
variable {α β : Type} {K : PySem.W.Frag} {cv : Nat → Value} {f f' : Fm} {H H' : Hp} {X X' : Value → Hp → Prop}
theorem Post.tr {r : R α} {k : α → Store → Fm → Hp → Prop} (h : Post K cv f H X r k) (t : Tr f H f' H') : Post K cv f' H' X r k := by
  cases r with
  | ok a st' => exact fun f2 H2 t2 s2 => h f2 H2 (t.trans t2) s2
  | exc c st' => exact fun f2 H2 t2 s2 => h f2 H2 (t.trans t2) s2
  | no => exact h
theorem Post.bind {r : R α} {g : α → Store → R β} {k : β → Store → Fm → Hp → Prop} (h : Post K cv f H X (r.bind g) k) :
    Post K cv f H X r fun a st1 f1 H1 => Post K cv f1 H1 X (g a st1) k := by
  cases r with
  | ok a st' => exact fun f2 H2 t2 s2 => Post.tr (r := g a st') h t2
  | exc c st' => exact h
  | no => exact h
theorem Post.imp {r : R α} {k k' : α → Store → Fm → Hp → Prop} (h : Post K cv f H X r k) (i : ∀ a st' f' H', Tr f H f' H' → StOk K f' H' st' → k a st' f' H' → k' a st' f' H') : Post K cv f H X r k' := by
  cases r with
  | ok a st' => exact fun f2 H2 t2 s2 => i a st' f2 H2 t2 s2 (h f2 H2 t2 s2)
  | exc c st' => exact h
  | no => exact h
theorem Post.of {o : Option α} {st : Store} {k : α → Store → Fm → Hp → Prop} (h : Post K cv f H X (R.of o st) k) : ∃ a, o = some a ∧ ∀ f' H', Tr f H f' H' → StOk K f' H' st → k a st f' H' := by
  cases o with
  | none => exact h.elim
  | some a => exact ⟨a, rfl, h⟩
end
/-- a two-place operation of the core, by values -/
def rP (K : PySem.W.Frag) (o : Op) : R2 := fun xv yv H Q => ∃ f st x y z, StOk K f H st ∧ Rep K f H x xv ∧ Rep K f H y yv ∧ opP st o x y = some z ∧ ∀ f' H', Tr f H f' H' → StOk K f' H' st → ∀ v, Rep K f' H' z v → Q v H'

section
variable {X : Cx} {pins : List (Addr × Obj)} {σ : L2.St} {H : Hp} {s : Shared} {a : Addr} {xs : List V}
theorem rdL (I : Inv X pins σ H s) (h : Rd H a (.lst xs)) : xs.length ≤ sizeLine ∧ ∃ (its : List Value) (n : Nat), Vals xs its ∧ s.heap.get? a = some { cls := .type "list", data := .seq its.toArray n } := h.ok I.hok
end
/-- list + list, as they stand -/
def rCatR : R2 := fun x y H Q => ∃ l b xs zs, x = .ref l ∧ y = .ref b ∧ Rd H l (.lst xs) ∧ Rd H b (.lst zs) ∧ xs.length + zs.length ≤ sizeLine ∧ ∀ p, H p = none → Q (.ref p) (upd H p (.lst (xs ++ zs)))
theorem op_catR {X : Cx} : OpR X (binaryOp .Add) rCatR := by
  intro pins s σ H x y v u Q I rx ry h
  obtain ⟨l, b, xs, zs, rfl, rfl, hH, hB, hz, q⟩ := h
  cases rx
  cases ry
  obtain ⟨z, its, n, r, e⟩ := rdL I hH
  obtain ⟨z2, its2, n2, r2, e2⟩ := rdL I hB
  have l1 := r.length
  have l2 := r2.length
  refine PySem.P.add_list e e2 ?_ (by rw [List.size_toArray, List.size_toArray]; omega)
  have ea : its.toArray ++ its2.toArray = (its ++ its2).toArray := by simp
  rw [ea]
  exact ⟨.ref _, _, I.lnew (t' := s.toks) (r.append r2) (by rw [List.length_append]; omega), rfl, q _ I.fresh⟩

section
variable {K : PySem.W.Frag} {f : Fm} {H : Hp} {st : Store}
/-- a list of the core, whichever it is, where it stands -/
theorem listOf_rd (so : StOk K f H st) {x : PV} {v : V} {xs : List PV} (r : Rep K f H x v) (h : listOf st x = some xs) : ∃ a vs, v = .ref a ∧ Rd H a (.lst vs) ∧ Reps K f H xs vs := by
  cases x with
  | lst ys =>
    have e : ys = xs := Option.some.inj h
    subst e
    cases r with
    | lst hr _ rs => exact ⟨_, _, rfl, hr, rs⟩
  | loc n =>
    cases r with
    | loc hn =>
      have h2 : (match st[n]? with | some (.lst ys) => some ys | _ => none) = some xs := h
      cases e : st[n]? with
      | none => rw [e] at h2; cases h2
      | some o =>
        rw [e] at h2
        cases o with
        | lst ys =>
          have e2 : ys = xs := Option.some.inj h2
          subst e2
          obtain ⟨vs, hv, rs⟩ := so.obj n _ _ hn e
          exact ⟨_, vs, rfl, .inl hv, rs⟩
        | _ => cases h2
  | _ => cases h
theorem Rep.tup_inv {xs : List PV} {v : V} (r : Rep K f H (.tup xs) v) : ∃ a vs, v = .ref a ∧ SqT K H a vs ∧ (∀ ys, Reps K f H ys vs → Rep K f H (.tup ys) v) ∧ Reps K f H xs vs := by
  cases r with
  | tup h n rs => exact ⟨_, _, rfl, .inl h, fun ys r => .tup h n r, rs⟩
  | tupK h rs => exact ⟨_, _, rfl, .inr h, fun ys r => .tupK h r, rs⟩
theorem Rep.scr_inv {xs : List PV} {v : V} (r : Rep K f H (.scr xs) v) : ∃ a vs, v = .ref a ∧ SqL K H a vs ∧ Reps K f H xs vs := by
  cases r with
  | scr h n rs => exact ⟨_, _, rfl, .inl h, rs⟩
  | scrK h rs => exact ⟨_, _, rfl, .inr h, rs⟩
theorem seqOf_rd (so : StOk K f H st) {x : PV} {v : V} {xs : List PV} (r : Rep K f H x v) (h : seqOf st x = some xs) : ∃ a vs, v = .ref a ∧ (SqL K H a vs ∨ SqT K H a vs) ∧ Reps K f H xs vs := by
  have key : listOf st x = some xs → ∃ a vs, v = .ref a ∧ (SqL K H a vs ∨ SqT K H a vs) ∧ Reps K f H xs vs := fun h2 => by
    obtain ⟨a, vs, e1, h1, rs⟩ := listOf_rd so r h2
    exact ⟨a, vs, e1, .inl (.inl h1), rs⟩
  cases x with
  | tup ys =>
    have e : ys = xs := Option.some.inj h
    subst e
    obtain ⟨a, vs, e1, h1, _, rs⟩ := r.tup_inv
    exact ⟨a, vs, e1, .inr h1, rs⟩
  | scr ys =>
    have e : ys = xs := Option.some.inj h
    subst e
    obtain ⟨a, vs, e1, h1, rs⟩ := r.scr_inv
    exact ⟨a, vs, e1, .inl h1, rs⟩
  | _ => exact key h
end

/-! ### data -/
mutual
theorem Rep.dp {K : PySem.W.Frag} {f : Fm} {H : Hp} : ∀ {x : PV} {v : V} {d : PyData}, Rep K f H x v → x.data = some d → Dp K H v d
  | _, _, _, .non, e => by cases e; exact .non
  | _, _, _, .bl b, e => by cases e; exact .bl b
  | _, _, _, .int i, e => by cases e; exact .int i
  | _, _, _, .str x, e => by cases e; exact .str _
  | .tup xs, _, d, .tup h n r, e => by
    have e2 : (PV.datas xs).map PyData.tuple = some d := e
    cases q : PV.datas xs with
    | none => rw [q] at e2; cases e2
    | some ds =>
      rw [q] at e2
      cases e2
      exact .tup (.inl h) (Reps.dp r q)
  | .tup xs, _, d, .tupK h r, e => by
    have e2 : (PV.datas xs).map PyData.tuple = some d := e
    cases q : PV.datas xs with
    | none => rw [q] at e2; cases e2
    | some ds =>
      rw [q] at e2
      cases e2
      exact .tup (.inr h) (Reps.dp r q)
  | .lst xs, _, d, .lst h n r, e => by
    have e2 : (PV.datas xs).map PyData.list = some d := e
    cases q : PV.datas xs with
    | none => rw [q] at e2; cases e2
    | some ds =>
      rw [q] at e2
      cases e2
      exact .lst (.inl h) (Reps.dp r q)
  | .scr xs, _, d, .scr h n r, e => by
    have e2 : (PV.datas xs).map PyData.list = some d := e
    cases q : PV.datas xs with
    | none => rw [q] at e2; cases e2
    | some ds =>
      rw [q] at e2
      cases e2
      exact .lst (.inl h) (Reps.dp r q)
  | .scr xs, _, d, .scrK h r, e => by
    have e2 : (PV.datas xs).map PyData.list = some d := e
    cases q : PV.datas xs with
    | none => rw [q] at e2; cases e2
    | some ds =>
      rw [q] at e2
      cases e2
      exact .lst (.inr h) (Reps.dp r q)
  | _, _, _, .loc h, e => by cases e
theorem Reps.dp {K : PySem.W.Frag} {f : Fm} {H : Hp} : ∀ {xs : List PV} {vs : List V} {ds : List PyData}, Reps K f H xs vs → PV.datas xs = some ds → DpAll K H vs ds
  | _, _, _, .nil, e => by cases e; exact .nil
  | x :: xs, _, ds, .cons a b, e => by
    have e2 : (match PV.data x, PV.datas xs with | some d, some ds => some (d :: ds) | _, _ => none) = some ds := e
    cases q : PV.data x with
    | none => rw [q] at e2; cases e2
    | some d1 =>
      cases q2 : PV.datas xs with
      | none => rw [q, q2] at e2; cases e2
      | some d2 =>
        rw [q, q2] at e2
        cases e2
        exact .cons (Rep.dp a q) (Reps.dp b q2)
end
theorem dataOf_dp {K : PySem.W.Frag} {f : Fm} {H : Hp} {st : Store} (so : StOk K f H st) {x : PV} {v : V} {d : PyData} (r : Rep K f H x v) (h : dataOf st x = some d) : Dp K H v d := by
  cases x with
  | loc n =>
    cases r with
    | loc hn =>
      have h2 : (match st[n]? with | some (.lst xs) => (PV.datas xs).map PyData.list | _ => none) = some d := h
      cases e : st[n]? with
      | none => rw [e] at h2; cases h2
      | some o =>
        rw [e] at h2
        cases o with
        | lst ys =>
          have h3 : (PV.datas ys).map PyData.list = some d := h2
          cases q : PV.datas ys with
          | none => rw [q] at h3; cases h3
          | some ds =>
            rw [q] at h3
            cases h3
            obtain ⟨vs, hv, rs⟩ := so.obj n _ _ hn e
            exact .lst (SqL.of hv) (Reps.dp rs q)
        | _ => cases h2
  | _ => exact Rep.dp r h
theorem dec_txt {x y : Txt} : decide (V.str ⟨x.toArray⟩ = V.str ⟨y.toArray⟩) = decide (x = y) := by
  by_cases h : x = y
  · subst h; simp
  · rw [decide_eq_false h]
    refine decide_eq_false fun e => h ?_
    injection e with e1
    have e2 : x.toArray = y.toArray := congrArg Str.cps e1
    simpa using e2
theorem op_eqP {X : Cx} (hu : X.A.units + 64 < cLine) : OpR X (compareOp .Eq) (fun x y H Q => ∃ f st px py b, StOk X.K f H st ∧ Rep X.K f H px x ∧ Rep X.K f H py y ∧ eqP st px py = some b ∧ Q (.bl b) H) := by
  intro pins s σ H x y v u Q I rx ry h
  obtain ⟨f, st, px, py, b, so, r1, r2, e, q⟩ := h
  unfold eqP at e
  split at e
  · cases r1; cases r2; cases e
    exact op_eq pins s σ H _ _ v u Q I rx ry ⟨rfl, by rw [dec_txt]; exact q⟩
  · cases r1; cases r2; cases e
    refine op_eq pins s σ H _ _ v u Q I rx ry ⟨rfl, ?_⟩
    rename_i i j
    have : decide (V.int i = V.int j) = decide (i = j) := by simp
    rw [this]; exact q
  · cases r1; cases r2; cases e
    refine op_eq pins s σ H _ _ v u Q I rx ry ⟨rfl, ?_⟩
    rename_i i j
    have : decide (V.bl i = V.bl j) = decide (i = j) := by simp
    rw [this]; exact q
  · split at e
    · rename_i d d2 h1 h2
      split at e
      · rename_i hs
        cases e
        exact op_eqD hu pins s σ H _ _ v u Q I rx ry ⟨d, d2, dataOf_dp so r1 h1, dataOf_dp so r2 h2, hs.1, hs.2, q⟩
      · cases e
    · cases e
theorem op_neP {X : Cx} (hu : X.A.units + 64 < cLine) : OpR X (compareOp .NotEq) (fun x y H Q => ∃ f st px py b, StOk X.K f H st ∧ Rep X.K f H px x ∧ Rep X.K f H py y ∧ eqP st px py = some b ∧ Q (.bl (!b)) H) := by
  intro pins s σ H x y v u Q I rx ry h
  obtain ⟨f, st, px, py, b, so, r1, r2, e, q⟩ := h
  unfold eqP at e
  split at e
  · cases r1; cases r2; cases e
    exact op_ne pins s σ H _ _ v u Q I rx ry ⟨rfl, by rw [dec_txt]; exact q⟩
  · cases r1; cases r2; cases e
    refine op_ne pins s σ H _ _ v u Q I rx ry ⟨rfl, ?_⟩
    rename_i i j
    have : decide (V.int i = V.int j) = decide (i = j) := by simp
    rw [this]; exact q
  · cases r1; cases r2; cases e
    refine op_ne pins s σ H _ _ v u Q I rx ry ⟨rfl, ?_⟩
    rename_i i j
    have : decide (V.bl i = V.bl j) = decide (i = j) := by simp
    rw [this]; exact q
  · split at e
    · rename_i d d2 h1 h2
      split at e
      · rename_i hs
        cases e
        exact op_neD hu pins s σ H _ _ v u Q I rx ry ⟨d, d2, dataOf_dp so r1 h1, dataOf_dp so r2 h2, hs.1, hs.2, q⟩
      · cases e
    · cases e

theorem eqV_flat {x y : PV} {a b : V} {K : PySem.W.Frag} {f : Fm} {H : Hp} (r1 : Rep K f H x a) (r2 : Rep K f H y b) (h1 : flatP x = true) (h2 : flatP y = true) : eqV a b = flatEq x y := by
  cases r1 <;> first
    | (cases r2 <;> first
        | rfl
        | (show _ = _; simp only [eqV, flatEq]; first | rfl | (rw [Bool.eq_iff_iff]; simp; done) | (rw [Bool.eq_iff_iff]; simp; exact eq_comm))
        | cases h2)
    | cases h1
theorem flatV_of {x : PV} {a : V} {K : PySem.W.Frag} {f : Fm} {H : Hp} (r : Rep K f H x a) (h : flatP x = true) : flatV a = true := by
  cases r <;> first | rfl | cases h
theorem flatAll_of {K : PySem.W.Frag} {f : Fm} {H : Hp} : ∀ {xs : List PV} {vs : List V}, Reps K f H xs vs → xs.all flatP = true → vs.all flatV = true
  | _, _, .nil, _ => rfl
  | _, _, .cons a b, h => by
    simp only [List.all_cons, Bool.and_eq_true] at h ⊢
    exact ⟨flatV_of a h.1, flatAll_of b h.2⟩
theorem inV_flat {K : PySem.W.Frag} {f : Fm} {H : Hp} {x : PV} {a : V} (r : Rep K f H x a) (hx : flatP x = true) : ∀ {xs : List PV} {vs : List V}, Reps K f H xs vs → xs.all flatP = true → inV a vs = xs.any fun z => flatEq z x
  | _, _, .nil, _ => rfl
  | _, _, .cons c d, h => by
    simp only [List.all_cons, Bool.and_eq_true] at h
    unfold inV
    simp only [List.any_cons]
    rw [eqV_flat c r h.1 hx]
    have := inV_flat r hx d h.2
    unfold inV at this
    rw [this]
/-- the needle at some place -/
theorem infixB_iff (y : Txt) : ∀ x : Txt, infixB y x = true ↔ ∃ i, i + y.length ≤ x.length ∧ (x.drop i).take y.length = y
  | [] => by
    unfold infixB
    constructor
    · intro h
      have : y = [] := by simpa using h
      subst this
      exact ⟨0, by simp, by simp⟩
    · rintro ⟨i, h, _⟩
      have h' : i + y.length ≤ 0 := h
      have : y = [] := List.length_eq_zero_iff.mp (by omega)
      subst this
      rfl
  | c :: r => by
    unfold infixB
    rw [Bool.or_eq_true, infixB_iff y r, List.isPrefixOf_iff_prefix]
    constructor
    · rintro (h | ⟨i, h, e⟩)
      · exact ⟨0, by simpa using h.length_le, by
          obtain ⟨t, e⟩ := h
          rw [← e]
          simp⟩
      · exact ⟨i + 1, by simp; omega, by simpa using e⟩
    · rintro ⟨i, h, e⟩
      cases i with
      | zero =>
        refine .inl ?_
        rw [List.drop_zero] at e
        exact ⟨(c :: r).drop y.length, by
          have := List.take_append_drop y.length (c :: r)
          rw [e] at this
          exact this⟩
      | succ i => exact .inr ⟨i, by simp at h; omega, by simpa using e⟩
theorem subAt_iff (x y : Txt) (i : Nat) (h : i + y.length ≤ x.length) : Builtin.Str.subAt ⟨x.toArray⟩ ⟨y.toArray⟩ i = true ↔ (x.drop i).take y.length = y := by
  unfold Builtin.Str.subAt
  have e : (⟨y.toArray⟩ : Str).length = y.length := by simp [Str.length]
  rw [beq_iff_eq]
  constructor
  · intro q
    have q2 := congrArg Array.toList q
    rw [Array.toList_extract] at q2
    simpa [List.extract, e] using q2
  · intro q
    apply Array.toList_inj.mp
    rw [Array.toList_extract]
    simpa [List.extract, e] using q
theorem occ_infix (x y : Txt) : (!(Builtin.Str.occurrences ⟨x.toArray⟩ ⟨y.toArray⟩ 0 (⟨x.toArray⟩ : Str).length 1).isEmpty) = infixB y x := by
  rw [Bool.eq_iff_iff, StrLaws.found_iff, infixB_iff]
  have e : (⟨y.toArray⟩ : Str).length = y.length := by simp [Str.length]
  have e2 : (⟨x.toArray⟩ : Str).length = x.length := by simp [Str.length]
  constructor
  · rintro ⟨i, h, q⟩
    rw [e, e2] at h
    exact ⟨i, h, (subAt_iff x y i h).mp q⟩
  · rintro ⟨i, h, q⟩
    exact ⟨i, by rw [e, e2]; exact h, (subAt_iff x y i h).mpr q⟩
theorem op_inP {X : Cx} (hu : X.A.units + 65 < cLine) : OpR X (compareOp .In) (fun x y H Q => ∃ f st px py b, StOk X.K f H st ∧ Rep X.K f H px x ∧ Rep X.K f H py y ∧ inP st px py = some b ∧ Q (.bl b) H) := by
  intro pins s σ H x y v u Q I rx ry h
  obtain ⟨f, st, px, py, b, so, r1, r2, e, q⟩ := h
  unfold inP at e
  split at e
  · cases r1; cases r2; cases e
    exact op_in_str pins s σ H _ _ v u Q I rx ry ⟨_, _, rfl, rfl, by rw [occ_infix]; exact q⟩
  · split at e
    · rename_i ys hs
      obtain ⟨a, vs, e1, h1, rs⟩ := seqOf_rd so r2 hs
      subst e1
      split at e
      · rename_i hf
        cases e
        refine op_in_seq pins s σ H _ _ v u Q I rx ry ⟨a, vs, rfl, h1, flatV_of r1 hf.1, flatAll_of rs hf.2, ?_⟩
        rw [inV_flat r1 hf.1 rs hf.2]
        exact q
      · split at e
        · rename_i d zs hd hz
          split at e
          · rename_i es he
            split at e
            · rename_i hsh
              cases e
              obtain ⟨a2, vs2, e2, h2, rs2⟩ := listOf_rd so r2 hz
              exact op_inD hu pins s σ H _ _ v u Q I rx ry ⟨d, es, dataOf_dp so r1 hd, by rw [e2]; exact .lst (.inl h2) (Reps.dp rs2 he), hsh.1, hsh.2, q⟩
            · cases e
          · cases e
        · cases e
    · cases e
theorem op_ninP {X : Cx} (hu : X.A.units + 65 < cLine) : OpR X (compareOp .NotIn) (fun x y H Q => ∃ f st px py b, StOk X.K f H st ∧ Rep X.K f H px x ∧ Rep X.K f H py y ∧ inP st px py = some b ∧ Q (.bl (!b)) H) := by
  intro pins s σ H x y v u Q I rx ry h
  obtain ⟨f, st, px, py, b, so, r1, r2, e, q⟩ := h
  unfold inP at e
  split at e
  · cases r1; cases r2; cases e
    exact op_notin_str pins s σ H _ _ v u Q I rx ry ⟨_, _, rfl, rfl, by rw [occ_infix]; exact q⟩
  · split at e
    · rename_i ys hs
      obtain ⟨a, vs, e1, h1, rs⟩ := seqOf_rd so r2 hs
      subst e1
      split at e
      · rename_i hf
        cases e
        refine op_notIn_seq pins s σ H _ _ v u Q I rx ry ⟨a, vs, rfl, h1, flatV_of r1 hf.1, flatAll_of rs hf.2, ?_⟩
        rw [inV_flat r1 hf.1 rs hf.2]
        exact q
      · split at e
        · rename_i d zs hd hz
          split at e
          · rename_i es he
            split at e
            · rename_i hsh
              cases e
              obtain ⟨a2, vs2, e2, h2, rs2⟩ := listOf_rd so r2 hz
              exact op_notInD hu pins s σ H _ _ v u Q I rx ry ⟨d, es, dataOf_dp so r1 hd, by rw [e2]; exact .lst (.inl h2) (Reps.dp rs2 he), hsh.1, hsh.2, q⟩
            · cases e
          · cases e
        · cases e
    · cases e
end Wf
namespace Wf
open PySem PySem.Spec PyProof.Rows L2

def binOp? : Operator → Option Op
  | .Add => some .add | .Sub => some .sub | .Mult => some .mul | .FloorDiv => some .fdiv | .Mod => some .mod | .Pow => some .pow | _ => none
def cmpOp? : CmpOp → Option Op
  | .Eq => some .eq | .NotEq => some .ne | .Lt => some .lt | .LtE => some .le | .Gt => some .gt | .GtE => some .ge | .In => some .in_ | .NotIn => some .nin | .Is => some .is_ | .IsNot => some .isn
theorem str_len (x : Txt) : (⟨x.toArray⟩ : Str).length = x.length := by simp [Str.length]
theorem str_app (x y : Txt) : (⟨x.toArray⟩ : Str) ++ ⟨y.toArray⟩ = ⟨(x ++ y).toArray⟩ := by
  show Str.append _ _ = _
  unfold Str.append
  simp
theorem CMul_of {i j : Int} (h : mulOk i j = true) : CMul i j := by
  unfold mulOk at h
  simp only [Bool.or_eq_true, Bool.and_eq_true, decide_eq_true_eq] at h
  exact h
theorem reps_rep {K : PySem.W.Frag} {f : Fm} {H : Hp} {xs : List PV} {vs : List V} (r : Reps K f H xs vs) : ∀ n : Nat, Reps K f H (List.replicate n xs).flatten (List.replicate n vs).flatten
  | 0 => .nil
  | n + 1 => by
    rw [List.replicate_succ, List.replicate_succ, List.flatten_cons, List.flatten_cons]
    exact r.append (reps_rep r n)
theorem Reps.rep {K : PySem.W.Frag} {f : Fm} {H : Hp} {xs : List PV} {vs : List V} (r : Reps K f H xs vs) (n : Nat) : Reps K f H (List.replicate n xs).flatten (List.replicate n vs).flatten := reps_rep r n
theorem fold_rep (a : Array Nat) : ∀ (n : Nat) (b : Array Nat), (List.replicate n a).foldl (· ++ ·) b = b ++ ((List.replicate n a.toList).flatten).toArray
  | 0, b => by simp
  | n + 1, b => by
    rw [List.replicate_succ, List.foldl_cons, fold_rep a n, List.replicate_succ, List.flatten_cons]
    apply Array.ext'
    simp
theorem txt_mul (x : Txt) (j : Int) (h : 0 ≤ j) : PySem.Txt.mul ⟨x.toArray⟩ j = ⟨((List.replicate j.toNat x).flatten).toArray⟩ := by
  unfold PySem.Txt.mul
  split
  · have : j.toNat = 0 := by omega
    rw [this]
    rfl
  · split
    · rename_i h1 h2
      simp only [Bool.or_eq_true, beq_iff_eq] at h2
      rcases h2 with h2 | h2
      · rw [h2]
        simp
      · rw [str_len] at h2
        have : x = [] := List.length_eq_zero_iff.mp h2
        rw [this]
        simp
    · rw [fold_rep]
      simp
/-- text * number -/
def rMulS : R2 := fun x y H Q => ∃ (a : Txt) (j : Int), x = .str ⟨a.toArray⟩ ∧ y = .int j ∧ (0 ≤ j ∧ j ≤ 1000 ∧ a.length ≤ 1000) ∧ Q (.str ⟨((List.replicate j.toNat a).flatten).toArray⟩) H
theorem op_mulS {X : Cx} : OpR X (binaryOp .Mult) rMulS := by
  intro pins s σ H x y v u Q I rx ry h
  obtain ⟨a, j, rfl, rfl, hj, q⟩ := h
  obtain ⟨t, rfl⟩ := (show ∃ t, v = Value.str _ t from rx)
  obtain ⟨t2, rfl⟩ := (show ∃ t, u = Value.int _ t from ry)
  have hm : a.length * j.toNat ≤ 1000 * 1000 := Nat.mul_le_mul hj.2.2 (by omega)
  refine PySem.SB.mul ⟨?_, fun h1 h2 => ?_, fun h1 h2 => ?_⟩ fun t' k => ?_
  · simp; omega
  · rw [str_len]
    have h3 : (1000 : Int) ≤ (2 ^ 63 - 1) / j := by
      rw [Int.le_ediv_iff_mul_le (by omega)]
      omega
    omega
  · rw [str_len]
    show decide (a.length * j.toNat > sizeLine) = false
    rw [sizeLine_eq]
    exact decide_eq_false (by omega)
  · rw [txt_mul a j hj.1]
    exact ⟨.str _, H, I.tok _, ⟨_, rfl⟩, q⟩
theorem op_binP {X : Cx} {op : Operator} {o : Op} (h : binOp? op = some o) : OpR X (binaryOp op) (rP X.K o) := by
  intro pins s σ H x y v u Q I rx ry hh
  obtain ⟨f, st, px, py, z, so, r1, r2, e, q⟩ := hh
  have q0 : ∀ w, Rep X.K f H z w → Q w H := fun w r => q f H (Tr.refl f H) so w r
  cases op <;> simp only [binOp?, Option.some.injEq, reduceCtorEq] at h <;> subst h <;> simp only [opP] at e
  · split at e
    · cases r1; cases r2; cases e
      exact op_add pins s σ H _ _ v u Q I rx ry ⟨_, _, rfl, rfl, q0 _ (.int _)⟩
    · split at e
      · rename_i hl
        cases r1; cases r2; cases e
        refine op_add_str pins s σ H _ _ v u Q I rx ry ⟨_, _, rfl, rfl, by rw [str_len, str_len, ← SL_eq]; exact hl, ?_⟩
        rw [str_app]
        exact q0 _ (.str _)
      · cases e
    · split at e
      · rename_i a b hl
        cases e
        obtain ⟨p1, vs1, e1, h1, n1, rs1⟩ := r1.tup_inv
        obtain ⟨p2, vs2, e2, h2, n2, rs2⟩ := r2.tup_inv
        subst e1 e2
        have l1 := rs1.length
        have l2 := rs2.length
        refine op_catA pins s σ H _ _ v u Q I rx ry ⟨p1, p2, vs1, vs2, rfl, rfl, h1, h2, by rw [← SL_eq]; omega, fun h0 => ?_, fun h0 h3 => ?_, fun h0 h3 p hp => ?_⟩
        · have ea : a = [] := List.length_eq_zero_iff.mp (by rw [l1, h0]; rfl)
          subst ea
          exact q0 _ r2
        · have ea : b = [] := List.length_eq_zero_iff.mp (by rw [l2, h3]; rfl)
          subst ea
          rw [List.append_nil] at q0
          exact q0 _ r1
        · exact q f _ (Tr.new hp) (so.new hp) _ (Rep.newTup so hp (rs1.append rs2))
      · cases e
    · split at e
      · rename_i a b ha hb
        split at e
        · rename_i hl
          cases e
          obtain ⟨p1, vs1, e1, h1, rs1⟩ := listOf_rd so r1 ha
          obtain ⟨p2, vs2, e2, h2, rs2⟩ := listOf_rd so r2 hb
          subst e1 e2
          have l1 := rs1.length
          have l2 := rs2.length
          exact op_catR pins s σ H _ _ v u Q I rx ry ⟨p1, p2, vs1, vs2, rfl, rfl, h1, h2, by rw [← SL_eq]; omega, fun p hp => q f _ (Tr.new hp) (so.new hp) _ (Rep.newLst so hp (rs1.append rs2))⟩
        · cases e
      · cases e
  · split at e
    · cases r1; cases r2; cases e
      exact op_sub pins s σ H _ _ v u Q I rx ry ⟨_, _, rfl, rfl, q0 _ (.int _)⟩
    · cases e
  · split at e
    · split at e
      · rename_i hm
        cases r1; cases r2; cases e
        exact op_mul pins s σ H _ _ v u Q I rx ry ⟨_, _, rfl, rfl, CMul_of hm, q0 _ (.int _)⟩
      · cases e
    · split at e
      · rename_i hm
        cases r1; cases r2; cases e
        exact op_mulS pins s σ H _ _ v u Q I rx ry ⟨_, _, rfl, rfl, hm, q0 _ (.str _)⟩
      · cases e
    · split at e
      · rename_i a j hm
        cases r2; cases e
        obtain ⟨p1, vs1, e1, h1, n1, rs1⟩ := r1.tup_inv
        subst e1
        have l1 := rs1.length
        refine op_repT pins s σ H _ _ v u Q I rx ry ⟨p1, _, vs1, rfl, rfl, h1, fun z => ?_, hm.1, hm.2.1, by omega, fun p hp => q f _ (Tr.new hp) (so.new hp) _ (Rep.newTup so hp (rs1.rep _))⟩
        rw [z] at l1
        have : a = [] := List.length_eq_zero_iff.mp l1
        rw [this] at hm
        cases hm.2.2.2
      · cases e
    · cases e
  · split at e
    · split at e
      · rename_i hm
        cases r1; cases r2; cases e
        exact op_mod pins s σ H _ _ v u Q I rx ry ⟨_, _, rfl, rfl, hm, q0 _ (.int _)⟩
      · cases e
    · cases e
  · split at e
    · split at e
      · rename_i hm
        cases r1; cases r2; cases e
        exact op_pow pins s σ H _ _ v u Q I rx ry ⟨_, _, rfl, rfl, hm, q0 _ (.int _)⟩
      · cases e
    · cases e
  · split at e
    · split at e
      · rename_i hm
        cases r1; cases r2; cases e
        exact op_fdiv pins s σ H _ _ v u Q I rx ry ⟨_, _, rfl, rfl, hm, q0 _ (.int _)⟩
      · cases e
    · cases e
theorem map_bl {o : Option Bool} {g : Bool → PV} {z : PV} (h : o.map g = some z) : ∃ b, o = some b ∧ z = g b := by
  cases o with
  | none => cases h
  | some b => exact ⟨b, rfl, (Option.some.inj h).symm⟩
theorem op_cmpP {X : Cx} (hu : X.A.units + 65 < cLine) {op : CmpOp} {o : Op} (h : cmpOp? op = some o) : OpR X (compareOp op) (rP X.K o) := by
  intro pins s σ H x y v u Q I rx ry hh
  obtain ⟨f, st, px, py, z, so, r1, r2, e, q⟩ := hh
  have q0 : ∀ w, Rep X.K f H z w → Q w H := fun w r => q f H (Tr.refl f H) so w r
  cases op <;> simp only [cmpOp?, Option.some.injEq, reduceCtorEq] at h <;> subst h <;> simp only [opP] at e
  · obtain ⟨b, e1, rfl⟩ := map_bl e
    exact op_eqP (by omega) pins s σ H _ _ v u Q I rx ry ⟨f, st, px, py, b, so, r1, r2, e1, q0 _ (.bl _)⟩
  · obtain ⟨b, e1, rfl⟩ := map_bl e
    exact op_neP (by omega) pins s σ H _ _ v u Q I rx ry ⟨f, st, px, py, b, so, r1, r2, e1, q0 _ (.bl _)⟩
  · split at e
    · cases r1; cases r2; cases e
      exact op_lt pins s σ H _ _ v u Q I rx ry ⟨_, _, rfl, rfl, q0 _ (.bl _)⟩
    · cases e
  · split at e
    · cases r1; cases r2; cases e
      exact op_le pins s σ H _ _ v u Q I rx ry ⟨_, _, rfl, rfl, q0 _ (.bl _)⟩
    · cases e
  · split at e
    · cases r1; cases r2; cases e
      exact op_gt pins s σ H _ _ v u Q I rx ry ⟨_, _, rfl, rfl, q0 _ (.bl _)⟩
    · cases e
  · split at e
    · cases r1; cases r2; cases e
      exact op_ge pins s σ H _ _ v u Q I rx ry ⟨_, _, rfl, rfl, q0 _ (.bl _)⟩
    · cases e
  · obtain ⟨b, e1, rfl⟩ := map_bl e
    unfold isP at e1
    split at e1
    · cases r2
      refine op_isN pins s σ H _ _ v u Q I rx ry ⟨rfl, ?_⟩
      have : decide (x = V.non) = b := by
        cases r1 <;> (have := Option.some.inj e1; subst this; simp)
      rw [this]
      exact q0 _ (.bl _)
    · rename_i c
      cases r2
      split at e1
      · cases r1; cases e1
        exact op_isBl pins s σ H _ _ v u Q I rx ry ⟨_, _, rfl, rfl, q0 _ (.bl _)⟩
      · cases r1; cases e1
        cases (show v = Value.none from rx)
        cases (show u = Value.bool c from ry)
        exact wpAny_is_other rfl (fun z => nomatch z) ⟨.bl false, H, I, rfl, q0 _ (.bl _)⟩
      · cases e1
    · cases e1
  · obtain ⟨b, e1, rfl⟩ := map_bl e
    unfold isP at e1
    split at e1
    · cases r2
      refine op_notN pins s σ H _ _ v u Q I rx ry ⟨rfl, ?_⟩
      have : decide (x = V.non) = b := by
        cases r1 <;> (have := Option.some.inj e1; subst this; simp)
      rw [this]
      exact q0 _ (.bl _)
    · rename_i c
      cases r2
      split at e1
      · cases r1; cases e1
        exact op_notBl pins s σ H _ _ v u Q I rx ry ⟨_, _, rfl, rfl, q0 _ (.bl _)⟩
      · cases r1; cases e1
        cases (show v = Value.none from rx)
        cases (show u = Value.bool c from ry)
        exact wpAny_isNot_other rfl (fun z => nomatch z) ⟨.bl true, H, I, rfl, q0 _ (.bl _)⟩
      · cases e1
    · cases e1
  · obtain ⟨b, e1, rfl⟩ := map_bl e
    exact op_inP hu pins s σ H _ _ v u Q I rx ry ⟨f, st, px, py, b, so, r1, r2, e1, q0 _ (.bl _)⟩
  · obtain ⟨b, e1, rfl⟩ := map_bl e
    exact op_ninP hu pins s σ H _ _ v u Q I rx ry ⟨f, st, px, py, b, so, r1, r2, e1, q0 _ (.bl _)⟩
end Wf
namespace Wf
open PySem PySem.Spec PyProof.Rows L2

/-! ### items -/
theorem atI_at {α : Type} (xs : List α) (i : Int) {v : α} (h : atP xs i = some v) : atI xs i = some v := by
  unfold atP at h
  unfold atI ixN
  split at h
  · rename_i h0
    have hl := (List.getElem?_eq_some_iff.mp h).1
    rw [if_pos h0, if_pos (by omega)]
    exact h
  · rename_i h0
    split at h
    · rename_i h1
      rw [if_neg h0, if_pos (by omega)]
      exact h
    · cases h
theorem atP_reps {K : PySem.W.Frag} {f : Fm} {H : Hp} {xs : List PV} {vs : List V} {i : Int} {x : PV} (r : Reps K f H xs vs) (h : atP xs i = some x) : ∃ v, atP vs i = some v ∧ Rep K f H x v := by
  unfold atP at h ⊢
  rw [← r.length]
  split at h
  · rename_i h0
    rw [if_pos h0]
    exact r.get h
  · rename_i h0
    split at h
    · rename_i h1
      rw [if_neg h0, if_pos h1]
      exact r.get h
    · cases h
def rIxP (K : PySem.W.Frag) : R2 := fun xv yv H Q => ∃ f st x y z, StOk K f H st ∧ Rep K f H x xv ∧ Rep K f H y yv ∧ ixP st x y = some z ∧ ∀ v, Rep K f H z v → Q v H
theorem ix_P {X : Cx} : IxR X (rIxP X.K) := by
  intro value slice pins s σ H x y v u Q I rx ry h hs
  obtain ⟨f, st, px, py, z, so, r1, r2, e, q⟩ := h
  unfold ixP at e
  split at e
  · rename_i i
    cases r2
    split at e
    · rename_i xs
      obtain ⟨a, vs, e1, h1, _, rs⟩ := r1.tup_inv
      subst e1
      obtain ⟨w, hw, rw⟩ := atP_reps rs e
      exact ix_tup value slice pins s σ H _ _ v u Q I rx ry ⟨a, vs, i, w, rfl, rfl, h1, atI_at _ _ hw, q _ rw⟩ hs
    · rename_i xs
      obtain ⟨a, vs, e1, h1, rs⟩ := r1.scr_inv
      subst e1
      obtain ⟨w, hw, rw⟩ := atP_reps rs e
      exact ix_list value slice pins s σ H _ _ v u Q I rx ry ⟨a, vs, i, w, rfl, rfl, h1, atI_at _ _ hw, q _ rw⟩ hs
    · split at e
      · rename_i t hl
        cases r1
        cases q2 : atP t i with
        | none => rw [q2] at e; cases e
        | some c =>
          rw [q2] at e
          cases e
          refine ix_str value slice pins s σ H _ _ v u Q I rx ry ⟨_, i, c, rfl, rfl, by rw [str_len, ← SL_eq]; exact hl, ?_, q _ (.str _)⟩ hs
          exact atI_at _ _ (by simpa using q2)
      · cases e
    · split at e
      · rename_i xs hx
        obtain ⟨a, vs, e1, h1, rs⟩ := listOf_rd so r1 hx
        subst e1
        obtain ⟨w, hw, rw⟩ := atP_reps rs e
        exact ix_list value slice pins s σ H _ _ v u Q I rx ry ⟨a, vs, i, w, rfl, rfl, .inl h1, atI_at _ _ hw, q _ rw⟩ hs
      · cases e
  · cases e
/-! ### slices -/
def partOf : Option PV → Option Int → Prop
  | none, none => True
  | some (.int i), some j => i = j
  | _, _ => False
theorem bound_sIx {n d : Nat} {o : Option PV} {j : Option Int} {k : Nat} (p : partOf o j) (h : bound n d o = some k) : HT.sIx n d j = k := by
  cases o with
  | none =>
    cases j with
    | none => exact Option.some.inj h
    | some j => exact p.elim
  | some v =>
    cases v with
    | int i =>
      cases j with
      | none => exact p.elim
      | some j =>
        have e : i = j := p
        subst e
        have h2 : clampI n i = k := Option.some.inj h
        show (if i < 0 then (i + (n : Int)).toNat else min i.toNat n) = k
        rw [← h2]
        unfold clampI
        by_cases hi : i < 0
        · rw [if_pos hi, if_neg (by omega)]
        · rw [if_neg hi, if_pos (by omega)]
    | _ => cases j <;> exact p.elim
def rSlP (K : PySem.W.Frag) : V → Option Int → Option Int → Hp → VK → Prop := fun xv lo hi H Q => ∃ f st x l h z, StOk K f H st ∧ Rep K f H x xv ∧ partOf l lo ∧ partOf h hi ∧ slP st x l h = some z ∧ ∀ f' H', Tr f H f' H' → StOk K f' H' st → ∀ v, Rep K f' H' z v → Q v H'
theorem cutV_reps {K : PySem.W.Frag} {f : Fm} {H : Hp} {xs : List PV} {vs : List V} {l h : Option PV} {lo hi : Option Int} {a b : Nat} (r : Reps K f H xs vs) (p1 : partOf l lo) (p2 : partOf h hi) (h1 : bound xs.length 0 l = some a) (h2 : bound xs.length xs.length h = some b) :
    Reps K f H (cutL xs a b) (cutV vs lo hi) := by
  unfold cutL cutV
  rw [← r.length, bound_sIx p1 h1, bound_sIx p2 h2]
  exact (r.drop a).take _
theorem sl_P {X : Cx} : SlR X (rSlP X.K) := by
  intro pins s σ H x v vl vu lo hi sl Q I rx hsl pl pu hh
  obtain ⟨f, st, px, l, h, z, so, r1, p1, p2, e, q⟩ := hh
  have q0 : ∀ w, Rep X.K f H z w → Q w H := fun w r => q f H (Tr.refl f H) so w r
  unfold slP at e
  split at e
  · rename_i xs
    obtain ⟨a, vs, e1, h1, na, rs⟩ := r1.tup_inv
    subst e1
    split at e
    · rename_i b c hb hc
      cases e
      have rc := cutV_reps rs p1 p2 hb hc
      refine sl_tupA pins s σ H _ v vl vu lo hi sl Q I rx hsl pl pu ⟨a, vs, rfl, h1, fun hw => ?_, fun _ p hp => q f _ (Tr.new hp) (so.new hp) _ (Rep.newTup so hp rc)⟩
      refine q0 _ (na _ ?_)
      have ev : cutV vs lo hi = vs := by
        unfold cutV
        rw [hw.1, hw.2]
        simp
      rw [ev] at rc
      exact rc
    · cases e
  · split at e
    · rename_i xs hl
      split at e
      · rename_i b c hb hc
        cases r1; cases e
        refine sl_str pins s σ H _ v vl vu lo hi sl Q I rx hsl pl pu ⟨_, rfl, by rw [str_len, ← SL_eq]; exact hl, ?_⟩
        have ec : cutS ⟨xs.toArray⟩ lo hi = ⟨(cutL xs b c).toArray⟩ := by
          unfold cutS cutL
          rw [str_len, bound_sIx p1 hb, bound_sIx p2 hc]
        rw [ec]
        exact q0 _ (.str _)
      · cases e
    · cases e
  · split at e
    · rename_i xs hx
      obtain ⟨a, vs, e1, h1, rs⟩ := listOf_rd so r1 hx
      subst e1
      split at e
      · rename_i b c hb hc
        cases e
        exact sl_list pins s σ H _ v vl vu lo hi sl Q I rx hsl pl pu ⟨a, vs, rfl, .inl h1, fun p hp => q f _ (Tr.new hp) (so.new hp) _ (Rep.newLst so hp (cutV_reps rs p1 p2 hb hc))⟩
      · cases e
    · cases e
/-! ### all, any -/
theorem boolsOf_reps {K : PySem.W.Frag} {f : Fm} {H : Hp} : ∀ {xs : List PV} {vs : List V} {bs : List Bool}, Reps K f H xs vs → boolsOf xs = some bs → vs = bs.map V.bl
  | _, _, _, .nil, e => by cases e; rfl
  | x :: xs, _, bs, .cons a b, e => by
    cases a with
    | bl c =>
      have e2 : (boolsOf xs).map (c :: ·) = some bs := e
      cases q : boolsOf xs with
      | none => rw [q] at e2; cases e2
      | some ds =>
        rw [q] at e2
        cases e2
        rw [boolsOf_reps b q]
        rfl
    | _ => cases e
theorem vals_bl : ∀ {bs : List Bool} {us : List Value}, Vals (bs.map V.bl) us → us = bs.map Value.bool
  | [], _, .nil => rfl
  | b :: bs, _, .cons r t => by
    cases (show _ = Value.bool b from r)
    rw [vals_bl t]
    rfl
theorem truth_bools {P : Program} {w : World} {A : Around} (bs : List Bool) : TruthOf P w A (fun i v => (bs.map Value.bool).toArray[i]? = some v) fun i => bs.getD i false := by
  intro i v s Q E hP hQ
  have h1 : (bs.map Value.bool)[i]? = some v := by simpa using hP
  rw [List.getElem?_map] at h1
  cases e : bs[i]? with
  | none => rw [e] at h1; cases h1
  | some b =>
    rw [e] at h1
    cases h1
    refine wpAny_truthy_bool ?_
    simpa [e] using hQ
theorem range_all (bs : List Bool) : (List.range bs.length).all (fun i => bs.getD i false) = bs.all id := by
  rw [Bool.eq_iff_iff]
  simp only [List.all_eq_true, List.mem_range]
  constructor
  · intro h b hb
    obtain ⟨i, hi, e⟩ := List.mem_iff_getElem.mp hb
    have := h i hi
    simpa [hi, e] using this
  · intro h i hi
    simpa [hi] using h bs[i] (List.getElem_mem hi)
theorem range_any (bs : List Bool) : (List.range bs.length).any (fun i => bs.getD i false) = bs.any id := by
  rw [Bool.eq_iff_iff]
  simp only [List.any_eq_true, List.mem_range]
  constructor
  · rintro ⟨i, hi, h⟩
    exact ⟨bs[i], List.getElem_mem hi, by simpa [hi] using h⟩
  · rintro ⟨b, hb, h⟩
    obtain ⟨i, hi, e⟩ := List.mem_iff_getElem.mp hb
    exact ⟨i, hi, by simpa [hi, e] using h⟩
section
variable {X : Cx}
theorem call_all_bl (hc : X.calm = true) : CallR X (.builtin "all") (fun xs H Q => ∃ (p : Addr) (bs : List Bool), xs = [.ref p] ∧ Rd H p (.lst (bs.map V.bl)) ∧ Q (.bl (bs.all id)) H) := by
  intro pins s σ H xs us Q I rs h
  obtain ⟨p, bs, rfl, hr, q⟩ := h
  obtain ⟨u, rfl, hu⟩ := vals1 rs
  cases (show u = Value.ref p from hu)
  obtain ⟨z, its, n, rv, e⟩ := rdL I hr
  have ei := vals_bl rv
  subst ei
  have hl : s.heap.IsList p (bs.map Value.bool).toArray := ⟨_, e, rfl, n, rfl⟩
  have hp := Heap.lt_size e
  have W := Walks.list (prog := X.prog) (w := X.w) (A := X.A.in1) (I.ok.hd hc) s.heap.objs.size p (Nat.ne_of_lt hp) (bs.map Value.bool).toArray
  refine call_all_walk (wpAny_pyIter_list hl ⟨s.heap.objs.size, _, _, _, _, _, _, rfl, W, ⟨⟨_, Heap.get?_push_size _ rfl, rfl, rfl⟩, hl.at fun o q => Heap.get?_push_of_some _ q⟩, truth_bools bs, fun h' tk hk => ?_⟩)
  have I2 : Inv X pins σ H { s with heap := h', toks := tk } := I.kept fun b o q => hk b o (by
    have := Heap.lt_size q
    simp only [List.mem_singleton]
    exact Nat.ne_of_lt this) (Heap.get?_push_of_some _ q)
  refine ⟨.bl _, H, I2, rfl, ?_⟩
  have el : ((bs.map Value.bool).toArray).size = bs.length := by simp
  rw [el, range_all]
  exact q
theorem call_any_bl (hc : X.calm = true) : CallR X (.builtin "any") (fun xs H Q => ∃ (p : Addr) (bs : List Bool), xs = [.ref p] ∧ Rd H p (.lst (bs.map V.bl)) ∧ Q (.bl (bs.any id)) H) := by
  intro pins s σ H xs us Q I rs h
  obtain ⟨p, bs, rfl, hr, q⟩ := h
  obtain ⟨u, rfl, hu⟩ := vals1 rs
  cases (show u = Value.ref p from hu)
  obtain ⟨z, its, n, rv, e⟩ := rdL I hr
  have ei := vals_bl rv
  subst ei
  have hl : s.heap.IsList p (bs.map Value.bool).toArray := ⟨_, e, rfl, n, rfl⟩
  have hp := Heap.lt_size e
  have W := Walks.list (prog := X.prog) (w := X.w) (A := X.A.in1) (I.ok.hd hc) s.heap.objs.size p (Nat.ne_of_lt hp) (bs.map Value.bool).toArray
  refine call_any_walk (wpAny_pyIter_list hl ⟨s.heap.objs.size, _, _, _, _, _, _, rfl, W, ⟨⟨_, Heap.get?_push_size _ rfl, rfl, rfl⟩, hl.at fun o q => Heap.get?_push_of_some _ q⟩, truth_bools bs, fun h' tk hk => ?_⟩)
  have I2 : Inv X pins σ H { s with heap := h', toks := tk } := I.kept fun b o q => hk b o (by
    have := Heap.lt_size q
    simp only [List.mem_singleton]
    exact Nat.ne_of_lt this) (Heap.get?_push_of_some _ q)
  refine ⟨.bl _, H, I2, rfl, ?_⟩
  have el : ((bs.map Value.bool).toArray).size = bs.length := by simp
  rw [el, range_any]
  exact q
end
end Wf
namespace Wf
open PySem PySem.Spec PyProof.Rows L2

/-! ### count of one sign -/
theorem subAt_one' (x : Txt) (c i : Nat) : (i + (⟨#[c]⟩ : Str).length ≤ (⟨x.toArray⟩ : Str).length ∧ Builtin.Str.subAt ⟨x.toArray⟩ ⟨#[c]⟩ i = true) ↔ x[i]? = some c := by
  have := StrLaws.subAt_one ⟨x.toArray⟩ c i
  simpa using this
theorem occ_count (x : Txt) (c : Nat) : ∀ (m k free : Nat) (arr : Array Nat), free ≤ k → k + m = x.length + 1 → arr.size + m ≤ x.length + 1 →
    (forIn (List.range' k m) (arr, free) (StrLaws.occBody ⟨x.toArray⟩ ⟨#[c]⟩ (⟨x.toArray⟩ : Str).length ((⟨x.toArray⟩ : Str).length + 1))).run.fst.size = arr.size + (x.drop k).count c
  | 0, k, free, arr, hf, hk, _ => by
    have : x.drop k = [] := List.drop_eq_nil_of_le (by omega)
    rw [this]
    simp
  | m + 1, k, free, arr, hf, hk, ha => by
    rw [List.range'_succ, List.forIn_cons]
    unfold StrLaws.occBody
    by_cases hc : x[k]? = some c
    · have h1 := (subAt_one' x c k).mpr hc
      have hlen : k < x.length := (List.getElem?_eq_some_iff.mp hc).1
      have hd : x.drop k = c :: x.drop (k + 1) := by
        rw [List.drop_eq_getElem_cons hlen]
        rw [(List.getElem?_eq_some_iff.mp hc).2]
      rw [if_pos ⟨⟨⟨by rw [str_len]; show arr.size < _; omega, hf⟩, h1.1⟩, h1.2⟩]
      have := occ_count x c m (k + 1) (k + (⟨#[c]⟩ : Str).length) (arr.push k) (by simp [Str.length]) (by omega) (by simp; omega)
      unfold StrLaws.occBody at this
      rw [hd, List.count_cons_self]
      simp only [Array.size_push] at this
      refine Eq.trans this ?_
      omega
    · have h1 : ¬ (k + (⟨#[c]⟩ : Str).length ≤ (⟨x.toArray⟩ : Str).length ∧ Builtin.Str.subAt ⟨x.toArray⟩ ⟨#[c]⟩ k = true) := fun q => hc ((subAt_one' x c k).mp q)
      rw [if_neg fun q => h1 ⟨q.1.2, q.2⟩]
      have := occ_count x c m (k + 1) free arr (by omega) (by omega) (by omega)
      unfold StrLaws.occBody at this
      have hd : (x.drop k).count c = (x.drop (k + 1)).count c := by
        by_cases hlen : k < x.length
        · rw [List.drop_eq_getElem_cons hlen]
          rw [List.count_cons_of_ne]
          intro e
          exact hc (by rw [List.getElem?_eq_getElem hlen, ← e])
        · rw [List.drop_eq_nil_of_le (by omega), List.drop_eq_nil_of_le (by omega)]
      rw [hd]
      exact this
theorem count_one (x : Txt) (c : Nat) : PySem.Txt.count ⟨x.toArray⟩ ⟨#[c]⟩ = (x.count c : Nat) := by
  unfold PySem.Txt.count
  rw [StrLaws.occ_eq]
  have := occ_count x c (x.length + 1) 0 0 #[] (Nat.le_refl _) (by omega) (by simp)
  rw [List.drop_zero] at this
  have e : (⟨x.toArray⟩ : Str).length + 1 - 0 = x.length + 1 := by rw [str_len]; rfl
  rw [e, Array.length_toList, this]
  simp
/-! ### join -/
theorem strsOf_reps {K : PySem.W.Frag} {f : Fm} {H : Hp} : ∀ {xs : List PV} {vs : List V} {ts : List Txt}, Reps K f H xs vs → strsOf xs = some ts → vs = (ts.map fun t => (⟨t.toArray⟩ : Str)).map V.str
  | _, _, _, .nil, e => by cases e; rfl
  | x :: xs, _, ts, .cons a b, e => by
    cases a with
    | str c =>
      have e2 : (strsOf xs).map (c :: ·) = some ts := e
      cases q : strsOf xs with
      | none => rw [q] at e2; cases e2
      | some ds =>
        rw [q] at e2
        cases e2
        rw [strsOf_reps b q]
        rfl
    | _ => cases e
theorem join_txt (sep : Txt) : ∀ ts : List Txt, Str.join ⟨sep.toArray⟩ (ts.map fun t => (⟨t.toArray⟩ : Str)) = ⟨(joinT sep ts).toArray⟩
  | [] => rfl
  | [x] => rfl
  | x :: y :: r => by
    have := join_txt sep (y :: r)
    show (⟨x.toArray⟩ : Str) ++ ⟨sep.toArray⟩ ++ Str.join ⟨sep.toArray⟩ ((y :: r).map fun t => (⟨t.toArray⟩ : Str)) = _
    rw [this, str_app, str_app]
    rfl
theorem sum_txt : ∀ ts : List Txt, ((ts.map fun t => (⟨t.toArray⟩ : Str)).map (·.length)).sum = sumLen ts
  | [] => rfl
  | x :: r => by
    have := sum_txt r
    simp only [List.map_cons, List.sum_cons, sumLen, str_len]
    simp only [List.map_map] at this ⊢
    rw [this]
/-- a method of a built-in with one argument, by values -/
def rM1 (K : PySem.W.Frag) (m : M1) : V → List V → Hp → VK → Prop := fun xv vs H Q => ∃ f st x y yv z, vs = [yv] ∧ StOk K f H st ∧ Rep K f H x xv ∧ Rep K f H y yv ∧ m1P st m x y = some z ∧ ∀ v, Rep K f H z v → Q v H
theorem mt_countP {X : Cx} : MtR X "str.count" (rM1 X.K .count) := by
  intro pins s σ H x xs v us Q I rx rs h
  obtain ⟨f, st, px, py, yv, z, rfl, so, r1, r2, e, q⟩ := h
  simp only [m1P] at e
  split at e
  · cases r1; cases r2; cases e
    refine mt_count pins s σ H _ _ v us Q I rx rs ⟨_, _, rfl, rfl, ?_⟩
    rw [count_one]
    exact q _ (.int _)
  · cases e
theorem mt_joinP {X : Cx} : MtR X "str.join" (rM1 X.K .join) := by
  intro pins s σ H x xs v us Q I rx rs h
  obtain ⟨f, st, px, py, yv, z, rfl, so, r1, r2, e, q⟩ := h
  simp only [m1P] at e
  split at e
  · rename_i sep ys hy
    split at e
    · rename_i ts ht
      split at e
      · rename_i hl
        cases r1; cases e
        obtain ⟨a, vs, e1, h1, rr⟩ := seqOf_rd so r2 hy
        subst e1
        have ev := strsOf_reps rr ht
        rw [ev] at h1
        refine mt_join pins s σ H _ _ v us Q I rx rs ⟨_, a, ts.map fun t => (⟨t.toArray⟩ : Str), rfl, rfl, h1, ?_, ?_⟩
        · rw [sum_txt, str_len, List.length_map]
          exact hl
        · have ej : PySem.Txt.join ⟨sep.toArray⟩ (ts.map fun t => (⟨t.toArray⟩ : Str)) = ⟨(joinT sep ts).toArray⟩ := by
            rw [← join_txt]
            exact StrLaws.glued_eq_join _ _
          rw [ej]
          exact q _ (.str _)
      · cases e
    · cases e
  · cases e
/-! ### isinstance -/
def tyName : Ty → String
  | .int => "int" | .bool => "bool" | .str => "str" | .tuple => "tuple"
theorem isi_P {X : Cx} (t : Ty) : CallR X (.builtin "isinstance") (fun vs H Q => ∃ f st x xv b, vs = [xv, .ty (tyName t)] ∧ StOk X.K f H st ∧ Rep X.K f H x xv ∧ isiP x t = some b ∧ Q (.bl b) H) := by
  intro pins s σ H xs us Q I rs h
  obtain ⟨f, st, x, xv, b, rfl, so, r, e, q⟩ := h
  have go : ∀ {ty : String}, TyX X.K H xv (.type ty) → kitB ty (tyName t) = some b → wpAny (model X.prog X.w) X.A (call (.builtin "isinstance") us) (EP X pins σ Q) X.xe s := fun tx hk =>
    call_isi pins s σ H _ us Q I rs ⟨xv, .ty (tyName t), _, _, b, rfl, .ty _, tx, kit_ty hk, q⟩
  cases r with
  | non => cases e; exact go (.base .non) (by cases t <;> decide +kernel)
  | bl c =>
    refine go (.base (.bl c)) ?_
    have e2 := Option.some.inj e
    subst e2
    cases t <;> decide +kernel
  | int c =>
    refine go (.base (.int c)) ?_
    have e2 := Option.some.inj e
    subst e2
    cases t <;> decide +kernel
  | str c =>
    refine go (.base (.str _)) ?_
    have e2 := Option.some.inj e
    subst e2
    cases t <;> decide +kernel
  | tup h n rs =>
    have e2 := Option.some.inj e
    subst e2
    rcases h with h | ⟨o, h⟩
    · exact go (.base (.tup h)) (by cases t <;> decide +kernel)
    · exact go (.fTuple h) (by cases t <;> decide +kernel)
  | tupK h rs =>
    have e2 := Option.some.inj e
    subst e2
    obtain ⟨o, its, m, h, hc, _⟩ := h
    exact go (.kTuple h hc) (by cases t <;> decide +kernel)
  | lst h n rs =>
    cases e
    rcases h with h | ⟨o, h⟩
    · exact go (.base (.lst h)) (by cases t <;> decide +kernel)
    · exact go (.base (.frz h)) (by cases t <;> decide +kernel)
  | scr h n rs => cases e
  | scrK h rs => cases e
  | loc h => cases e
/-! ### built-ins of one argument -/
theorem intsOf_reps {K : PySem.W.Frag} {f : Fm} {H : Hp} : ∀ {xs : List PV} {vs : List V} {ts : List Int}, Reps K f H xs vs → intsOf xs = some ts → vs = ts.map V.int
  | _, _, _, .nil, e => by cases e; rfl
  | x :: xs, _, ts, .cons a b, e => by
    cases a with
    | int c =>
      have e2 : (intsOf xs).map (c :: ·) = some ts := e
      cases q : intsOf xs with
      | none => rw [q] at e2; cases e2
      | some ds =>
        rw [q] at e2
        cases e2
        rw [intsOf_reps b q]
        rfl
    | _ => cases e
theorem vals_int {ns : List Int} {us : List Value} (r : Vals (ns.map V.int) us) {i : Nat} {v : Value} (h : us[i]? = some v) : ∃ n t, ns[i]? = some n ∧ v = .int n t := by
  induction ns generalizing us i with
  | nil => cases r; simp at h
  | cons n ns ih =>
    cases r with
    | cons a b =>
      obtain ⟨t, rfl⟩ := a
      cases i with
      | zero => simp at h; exact ⟨n, t, rfl, h.symm⟩
      | succ i => simpa using ih b (by simpa using h)
theorem call_max_ints {X : Cx} (hc : X.calm = true) : CallR X (.builtin "max") (fun xs H Q => ∃ (p : Addr) (ns : List Int) (m : Int), xs = [.ref p] ∧ Rd H p (.lst (ns.map V.int)) ∧ maxI ns = some m ∧ Q (.int m) H) := by
  intro pins s σ H xs us Q I rs h
  obtain ⟨p, ns, m, rfl, hr, hm, q⟩ := h
  obtain ⟨u, rfl, hu⟩ := vals1 rs
  cases (show u = Value.ref p from hu)
  obtain ⟨z, its, n, rv, e⟩ := rdL I hr
  have hl : s.heap.IsList p its.toArray := ⟨_, e, rfl, n, rfl⟩
  have hp := Heap.lt_size e
  have W := Walks.list (prog := X.prog) (w := X.w) (A := X.A.in1) (I.ok.hd hc) s.heap.objs.size p (Nat.ne_of_lt hp) its.toArray
  have hlen : its.length = ns.length := by rw [← rv.length, List.length_map]
  cases ns with
  | nil => cases hm
  | cons n0 r =>
    have hm2 : (n0 :: r)[argBest (fun a b => decide ((n0 :: r).getD b 0 < (n0 :: r).getD a 0)) r.length]? = some m := hm
    refine call_max_walk (wpAny_pyIter_list hl ⟨s.heap.objs.size, _, _, _, _, _, fun a b => decide ((n0 :: r).getD b 0 < (n0 :: r).getD a 0), rfl, W, ⟨⟨_, Heap.get?_push_size _ rfl, rfl, rfl⟩, hl.at fun o q => Heap.get?_push_of_some _ q⟩, fun b hb => ?_, ?_, ?_, fun v h' tk hP hk => ?_⟩)
    · rw [Heap.size_push]
      simp only [List.mem_cons, List.not_mem_nil, or_false] at hb
      rcases hb with rfl | rfl
      · exact Nat.lt_succ_self _
      · exact Nat.lt_succ_of_lt hp
    · simp [hlen]
    · intro i j vi vj s' Q' E' hi hj hQ'
      obtain ⟨a, t, ea, rfl⟩ := vals_int rv (i := i) (v := vi) (by simpa using hi)
      obtain ⟨b, t', eb, rfl⟩ := vals_int rv (i := j) (v := vj) (by simpa using hj)
      have e1 : (n0 :: r).getD i 0 = a := by rw [List.getD_eq_getElem?_getD, ea]; rfl
      have e2 : (n0 :: r).getD j 0 = b := by rw [List.getD_eq_getElem?_getD, eb]; rfl
      dsimp only at hQ'
      rw [e1, e2] at hQ'
      exact gt_int (show Q' (.bool (decide (b < a))) s' from hQ')
    · have I2 : Inv X pins σ H { s with heap := h', toks := tk } := I.kept fun b o q => hk b o (by
        have := Heap.lt_size q
        simp only [List.mem_singleton]
        exact Nat.ne_of_lt this) (Heap.get?_push_of_some _ q)
      have es : its.toArray.size - 1 = r.length := by simp [hlen]
      rw [es] at hP
      obtain ⟨a, t, ea, rfl⟩ := vals_int rv (v := v) (by rw [← List.getElem?_toArray]; exact hP)
      rw [hm2] at ea
      cases ea
      exact ⟨.int m, H, I2, ⟨_, rfl⟩, q⟩
def rB1 (K : PySem.W.Frag) (b : B1) : List V → Hp → VK → Prop := fun vs H Q => ∃ f st x xv z, vs = [xv] ∧ StOk K f H st ∧ Rep K f H x xv ∧ b1P st b x = some z ∧ ∀ f' H', Tr f H f' H' → StOk K f' H' st → ∀ v, Rep K f' H' z v → Q v H'
/-- the names of the built-ins -/
def b1Val : B1 → Value
  | .len => .builtin "len" | .all => .builtin "all" | .any => .builtin "any" | .tuple => .type "tuple" | .list => .type "list" | .int => .type "int" | .str => .type "str"
  | .max => .builtin "max" | .min => .builtin "min" | .sum => .builtin "sum" | .sortedSet => .none | .sorted => .builtin "sorted"
theorem b1_P {X : Cx} (hc : X.calm = true) (b : B1) : CallR X (b1Val b) (rB1 X.K b) := by
  intro pins s σ H xs us Q I rs h
  obtain ⟨f, st, x, xv, z, rfl, so, r, e, q⟩ := h
  have q0 : ∀ w, Rep X.K f H z w → Q w H := fun w r => q f H (Tr.refl f H) so w r
  cases b <;> simp only [b1P] at e
  · split at e
    · split at e
      · rename_i hl
        cases r; cases e
        exact call_len_str pins s σ H _ us Q I rs ⟨_, rfl, by rw [str_len, ← SL_eq]; exact hl, by rw [str_len]; exact q0 _ (.int _)⟩
      · cases e
    · cases q2 : seqOf st x with
      | none => rw [q2] at e; cases e
      | some ys =>
        rw [q2] at e
        cases e
        obtain ⟨a, vs, e1, h1, rr⟩ := seqOf_rd so r q2
        subst e1
        exact call_len_seq pins s σ H _ us Q I rs ⟨a, vs, rfl, h1, by rw [← rr.length]; exact q0 _ (.int _)⟩
  · split at e
    · rename_i ys hy
      cases q2 : boolsOf ys with
      | none => rw [q2] at e; cases e
      | some bs =>
        rw [q2] at e
        cases e
        obtain ⟨a, vs, e1, h1, rr⟩ := listOf_rd so r hy
        subst e1
        rw [boolsOf_reps rr q2] at h1
        exact call_all_bl hc pins s σ H _ us Q I rs ⟨a, bs, rfl, h1, q0 _ (.bl _)⟩
    · cases e
  · split at e
    · rename_i ys hy
      cases q2 : boolsOf ys with
      | none => rw [q2] at e; cases e
      | some bs =>
        rw [q2] at e
        cases e
        obtain ⟨a, vs, e1, h1, rr⟩ := listOf_rd so r hy
        subst e1
        rw [boolsOf_reps rr q2] at h1
        exact call_any_bl hc pins s σ H _ us Q I rs ⟨a, bs, rfl, h1, q0 _ (.bl _)⟩
    · cases e
  · split at e
    · cases e
      obtain ⟨a, vs, e1, h1, na, rr⟩ := r.tup_inv
      subst e1
      exact call_tuple_of pins s σ H _ us Q I rs ⟨a, vs, rfl, .inr ⟨h1, q0 _ r⟩⟩
    · cases q2 : listOf st x with
      | none => rw [q2] at e; cases e
      | some ys =>
        rw [q2] at e
        cases e
        obtain ⟨a, vs, e1, h1, rr⟩ := listOf_rd so r q2
        subst e1
        exact call_tuple_of pins s σ H _ us Q I rs ⟨a, vs, rfl, .inl ⟨.inl h1, fun p hp => q f _ (Tr.new hp) (so.new hp) _ (Rep.newTup so hp rr)⟩⟩
  · cases q2 : seqOf st x with
    | none => rw [q2] at e; cases e
    | some ys =>
      rw [q2] at e
      cases e
      obtain ⟨a, vs, e1, h1, rr⟩ := seqOf_rd so r q2
      subst e1
      exact call_list_of pins s σ H _ us Q I rs ⟨a, vs, rfl, h1, fun p hp => q f _ (Tr.new hp) (so.new hp) _ (Rep.newLst so hp rr)⟩
  · split at e
    · cases r; cases e
      exact call_int1 pins s σ H _ us Q I rs (.inr ⟨_, rfl, q0 _ (.int _)⟩)
    · cases r; cases e
      exact call_int1 pins s σ H _ us Q I rs (.inl ⟨_, rfl, q0 _ (.int _)⟩)
    · cases e
  · cases e
  · split at e
    · rename_i ys hy
      split at e
      · rename_i is hi
        cases q2 : maxI is with
        | none => rw [q2] at e; cases e
        | some m =>
          rw [q2] at e
          cases e
          obtain ⟨a, vs, e1, h1, rr⟩ := listOf_rd so r hy
          subst e1
          rw [intsOf_reps rr hi] at h1
          exact call_max_ints hc pins s σ H _ us Q I rs ⟨a, is, m, rfl, h1, q2, q0 _ (.int _)⟩
      · cases e
    · cases e
  all_goals cases e
/-- built-ins of two arguments -/
def b2Val : B2 → Value
  | .max => .builtin "max" | .min => .builtin "min"
theorem b2_P {X : Cx} (hc : X.calm = true) (b : B2) : CallR X (b2Val b) (fun vs H Q => ∃ f st x xv y yv z, vs = [xv, yv] ∧ StOk X.K f H st ∧ Rep X.K f H x xv ∧ Rep X.K f H y yv ∧ b2P b x y = some z ∧ ∀ v, Rep X.K f H z v → Q v H) := by
  intro pins s σ H xs us Q I rs h
  obtain ⟨f, st, x, xv, y, yv, z, rfl, so, r1, r2, e, q⟩ := h
  unfold b2P at e
  split at e
  · cases r1; cases r2; cases e
    exact call_max2 hc pins s σ H _ us Q I rs ⟨_, _, rfl, q _ (.int _)⟩
  · cases r1; cases r2; cases e
    exact call_min2 hc pins s σ H _ us Q I rs ⟨_, _, rfl, q _ (.int _)⟩
  · cases e
end Wf
/-! From the text's terms to the core's. -/
namespace Wf
open PySem

/-- the defs by their numbers -/
def fnNames : List Str := ["law", "_law_town", "_law_draw", "_law_pick", "_law_word", "_law_simple", "_law_question", "_law_text", "_law_finds", "_law_depth", "_law_texts", "_law_is_least",
  "is_between", "are_words", "is_simple", "is_at_most", "is_question", "check_question", "check_text", "depth_of", "depth", "are_close", "does_find", "finds", "found_among",
  "check_size", "is_least_find", "is_least", "least_finds"]
def excNames : List Str := ["InvalidQuestion", "InvalidText", "InvalidTexts", "InvalidNumber", "InvalidNotation", "TooDeep", "TooMany", "AlreadyThere", "NotThere", "NothingToUndo", "FindError"]
def bNames : List Str := ["len", "all", "any", "tuple", "list", "int", "str", "max", "min", "sum", "sorted", "isinstance", "bool", "range", "enumerate", "zip", "set"]
def gconst (x : Str) : Option PV :=
  if x = "WORDS" then some (.str [97, 98, 99, 100]) else if x = "DEEP" then some (.int 3) else if x = "FOUND" then some (.str [33]) else none
structure Ctx where
  N : List Str
  sc : Scope
  muts : List Str
  fns : List Str
  excs : List Str
  gs : List Str
  caps : List Str
/-- a block's scope: what it takes of the def's cells is a cell there -/
def relabS (scope sc : Scope) : Scope := { scope with names := scope.names.map fun (n, k) => if (k == NameKind.free && sc.kind == .function && sc.names.lookup n == some .cell) then (n, NameKind.cell) else (n, k) }
def capsOf (scope : Scope) : List Str := (scope.names.filter fun y => y.2 == .free).map (·.1)
def Ctx.blk (c : Ctx) (scope : Scope) : Ctx := ⟨c.N, relabS scope c.sc, [], c.fns, c.excs, c.gs, capsOf scope⟩
def Ctx.slot (c : Ctx) (x : Str) : Option Nat := match c.sc.names.lookup x with
  | some .local => c.N.idxOf? x
  | some .cell => c.N.idxOf? x
  | some .free => c.N.idxOf? x
  | _ => none
def Ctx.lslot (c : Ctx) (x : Str) : Option Nat := if x ∈ c.caps then none else match c.sc.names.lookup x with
  | some .local => c.N.idxOf? x
  | some .cell => c.N.idxOf? x
  | _ => none
def Ctx.isGl (c : Ctx) (x : Str) : Bool := decide (c.sc.names.lookup x = some .globalImplicit)
def b1Of (x : Str) : Option B1 :=
  if x = "len" then some .len else if x = "all" then some .all else if x = "any" then some .any else if x = "tuple" then some .tuple else if x = "list" then some .list else if x = "int" then some .int
  else if x = "max" then some .max else none
def b2Of (x : Str) : Option B2 := if x = "max" then some .max else if x = "min" then some .min else none
def tyOf (x : Str) : Option Ty := if x = "int" then some .int else if x = "bool" then some .bool else if x = "str" then some .str else if x = "tuple" then some .tuple else none
def m1Of (x : Str) : Option M1 := if x = "count" then some .count else if x = "join" then some .join else none
def cstOf : Const → Option PV
  | .none => some .non
  | .bool b => some (.bl b)
  | .int i => some (.int i)
  | .str x => some (.str x.cps.toList)
  | _ => none
def ownOf (N : List Str) (sc : Scope) : List (Str × Nat) := sc.names.filterMap fun y => match y.2 with
  | .local => (N.idxOf? y.1).map fun i => (y.1, i)
  | .cell => (N.idxOf? y.1).map fun i => (y.1, i)
  | _ => none
def strKeys : List (Option Expr) → Option (List Txt)
  | [] => some []
  | some (.Constant (.str x) _ _) :: r => (strKeys r).map (x.cps.toList :: ·)
  | _ => none
/-- a display with texts as keys -/
def dictOf : Expr → Option (List Txt × List Expr)
  | .Dict ks vs _ => match strKeys ks with
    | some ts => if ts.length = vs.length ∧ ts ≠ [] ∧ ts.length ≤ 15 ∧ ts.Nodup then some (ts, vs) else none
    | none => none
  | _ => none
def allSome : List (Option CE) → Option CEs
  | [] => some .nil
  | some x :: r => (allSome r).map (.cons x)
  | none :: _ => none
def namesT (c : Ctx) : List Expr → Option (List Nat)
  | [] => some []
  | .Name x _ :: r => match c.lslot x, namesT c r with
    | some i, some is => some (i :: is)
    | _, _ => none
  | _ => none
def compTg (c : Ctx) : Expr → Option Tg
  | .Name x _ => (c.lslot x).map .one
  | .Tuple es _ _ => (namesT c es).map .many
  | _ => none
/-- an expression that may stand as a test -/
def testOk : Nat → Expr → Bool
  | 0, _ => false
  | n + 1, .UnaryOp .Not x _ => testOk n x
  | n + 1, .BoolOp op vs pos => match vs with
    | [] => false
    | [a] => testOk n a
    | a :: b :: r => testOk n a && testOk n (.BoolOp op (b :: r) pos)
  | _ + 1, .IfExp .. => false
  | _ + 1, .Starred .. => false
  | _ + 1, _ => true
mutual
def compE : Nat → Ctx → Expr → Option CE
  | 0, _, _ => none
  | n + 1, c, e => match e with
    | .Constant k _ _ => (cstOf k).map .cst
    | .Name x _ => if (x == ("__debug__" : Str)) = true ∨ (x == ("__classdict__" : Str)) = true then none else match c.slot x with
      | some i => some (.var i)
      | none => if c.isGl x = true ∧ x ∈ c.gs then (gconst x).map .cst else none
    | .Tuple es _ _ => (compEs n c es).map .tup
    | .List es _ => (compEs n c es).map .lst
    | .BinOp a op b _ => match compE n c a, binOp? op, compE n c b with
      | some x, some o, some y => some (.op o x y)
      | _, _, _ => none
    | .UnaryOp .Not a _ => (compE n c a).map .not_
    | .UnaryOp .USub a _ => (compE n c a).map .neg
    | .BoolOp op vs pos => match vs with
      | [a] => compE n c a
      | a :: b :: r => match compE n c a, compE n c (.BoolOp op (b :: r) pos) with
        | some x, some y => some (match op with | .And => .and_ x y | .Or => .or_ x y)
        | _, _ => none
      | [] => none
    | .Compare a ops bs _ => match ops, bs with
      | [op], [b] => if behindInMarks op b then none else match compE n c a, cmpOp? op, compE n c b with
        | some x, some o, some y => some (.op o x y)
        | _, _, _ => none
      | [op, op2], [b, d] => if lastMarks [op, op2] [b, d] then none else match compE n c a, cmpOp? op, compE n c b, cmpOp? op2, compE n c d with
        | some x, some o, some y, some o2, some z => some (.chain o o2 x y z)
        | _, _, _, _, _ => none
      | _, _ => none
    | .IfExp t a b _ => if testOk n t then match compE n c t, compE n c a, compE n c b with
        | some x, some y, some z => some (.ite x y z)
        | _, _, _ => none
      else none
    | .Subscript o i _ => match i with
      | .Slice lo hi none _ => match compE n c o, compO n c lo, compO n c hi with
        | some x, some l, some h => some (.sl x l h)
        | _, _, _ => none
      | .Slice .. => none
      | i => match dictOf o with
        | some (ts, vs) => match allSome (vs.map (compE n c)), compE n c i with
          | some us, some y => some (.dsub ts us y)
          | _, _ => none
        | none => match compE n c o, compE n c i with
          | some x, some y => some (.ix x y)
          | _, _ => none
    | .Call (.Name f _) (a :: as) [] _ => if c.isGl f = true ∧ (f == ("__debug__" : Str)) = false ∧ f ≠ "__name__" then match fnNames.idxOf? f with
        | some i => if f ∈ c.fns then (compEs n c (a :: as)).map (.call i) else none
        | none => if f = "isinstance" then match as with
            | [.Name t _] => if c.isGl t = true then match compE n c a, tyOf t with
                | some x, some y => some (.isi x y)
                | _, _ => none
              else none
            | _ => none
          else if f = "sorted" then match as, a with
            | [], .Call (.Name g _) [b] [] _ => if g = "set" ∧ c.isGl g = true then (compE n c b).map .srt else none
            | _, _ => none
          else match as with
            | [] => match b1Of f, compE n c a with
              | some b, some x => some (.b1 b x)
              | _, _ => none
            | [d] => match b2Of f, compE n c a, compE n c d with
              | some b, some x, some y => some (.b2 b x y)
              | _, _, _ => none
            | _ => none
      else none
    | .Call (.Attribute o m apos) [a] [] cpos => if (apos.endLine == cpos.line) = true then match o with
        | .Call (.Name _ _) [] [] _ => none
        | o => match m1Of m, compE n c o, compE n c a with
          | some k, some x, some y => some (.m1 k x y)
          | none, some x, some y => if m = "append" then some (.mapp x y) else if m = "extend" then some (.mext x y) else none
          | _, _, _ => none
      else none
    | .ListComp elt [gen] scope _ => if gen.is_async = 0 ∧ L2.blkC c.N c.sc scope (ownOf c.N scope) = true then
        match compE n (c.blk scope) elt, compTg (c.blk scope) gen.target, compI n c gen.target gen.iter, compC n (c.blk scope) gen.ifs with
        | some x, some t, some s, some q => if tgOk t (ownOf c.N scope) = true then some (.comp x t s q ((ownOf c.N scope).map (·.2))) else none
        | _, _, _, _ => none
      else none
    | .ListComp elt [gen, gen2] scope _ => if gen.is_async = 0 ∧ gen2.is_async = 0 ∧ gen.ifs = [] ∧ gen2.ifs = [] ∧ L2.blkC c.N c.sc scope (ownOf c.N scope) = true then
        match compE n (c.blk scope) elt, compTg (c.blk scope) gen.target, compI n c gen.target gen.iter, compTg (c.blk scope) gen2.target, compI n (c.blk scope) gen2.target gen2.iter with
        | some x, some (.one i), some s, some (.one j), some s2 => if tgOk (.one i) (ownOf c.N scope) = true ∧ tgOk (.one j) (ownOf c.N scope) = true then some (.comp2 x i s j s2 ((ownOf c.N scope).map (·.2))) else none
        | _, _, _, _, _ => none
      else none
    | _ => none
def compEs : Nat → Ctx → List Expr → Option CEs
  | 0, _, _ => none
  | _ + 1, _, [] => some .nil
  | n + 1, c, e :: r => match compE n c e, compEs n c r with
    | some x, some y => some (.cons x y)
    | _, _ => none
def compO : Nat → Ctx → Option Expr → Option CEo
  | 0, _, _ => none
  | _ + 1, _, none => some .none
  | n + 1, c, some e => (compE n c e).map .some
def compC : Nat → Ctx → List Expr → Option CEo
  | 0, _, _ => none
  | _ + 1, _, [] => some .none
  | n + 1, c, [e] => if testOk n e then (compE n c e).map .some else none
  | _ + 1, _, _ => none
def compI : Nat → Ctx → Expr → Expr → Option CI
  | 0, _, _, _ => none
  | n + 1, c, tg, e => match e with
    | .Call (.Name f _) [a] [] _ => if c.isGl f = true ∧ f = "range" then (compE n c a).map .rng
        else if c.isGl f = true ∧ f = "enumerate" then match tg with
          | .Tuple .. => (compE n c a).map .enum
          | _ => none
        else (compE n c e).map .seq
    | .Set .. => none
    | e => (compE n c e).map .seq
def tgOk : Tg → List (Str × Nat) → Bool
  | .one i, own => (own.map (·.2)).contains i
  | .many is, own => is.all fun i => (own.map (·.2)).contains i
end

/-- are the two or three names of a, b = x, y stored from the right (the compiler swaps them)? none: the model does not say -/
def swapB (sc : Scope) (ts vs : List Expr) : Option Bool :=
  if !(ts.length == 2 || ts.length == 3) || vs.length != ts.length then some false
  else if vs.any (fun | .Starred .. => true | _ => false) then some false
  else
    let line := (ts.head?.map (·.pos.line)).getD 0
    let names := ts.filterMap fun
      | .Name id pos => if sc.names.lookup id == some .local && pos.line == line then some id else none
      | _ => none
    if names.length != ts.length || names.eraseDups.length != names.length then some false
    else if vs.all (foldedForSure 8) then some false
    else if vs.all (constantsAlone 8) then none
    else some true
/-- a value for a name (or an answer) that holds a list of the store -/
def compM (n : Nat) (c : Ctx) (x : Str) (e : Expr) : Option CE := if x ∈ c.muts then match e with
    | .List es _ => (compEs n c es).map .newl
    | .BinOp a .Add b _ => match compE n c a, compE n c b with
      | some x, some y => some (.newcat x y)
      | _, _ => none
    | e => compE n c e
  else compE n c e
def compPar (n : Nat) (c : Ctx) (is : List Nat) (vs : List Expr) : Option CS := match is, vs with
  | [i, j], [a, b] => if i = j then none else match compM n c (c.N.getD i "") a, compM n c (c.N.getD j "") b with
    | some x, some y => some (.par i j x y)
    | _, _ => none
  | [i, j, k], [a, b, d] => if i = j ∨ i = k ∨ j = k then none else match compE n c a, compE n c b, compE n c d with
    | some x, some y, some z => some (.par3 i j k x y z)
    | _, _, _ => none
  | _, _ => none
def isCallE : Expr → Bool
  | .Call .. => true
  | _ => false
def isCompE : Expr → Bool
  | .ListComp .. => true
  | .SetComp .. => true
  | .DictComp .. => true
  | _ => false
def isSliceE : Expr → Bool
  | .Slice .. => true
  | _ => false
mutual
def compS : Nat → Ctx → Stmt → Option CS
  | 0, _, _ => none
  | n + 1, c, s => match s with
    | .Pass _ => some .skip
    | .Expr e _ => if isCallE e then (compE n c e).map .expr else none
    | .Assign [.Name x _] e _ => match c.lslot x, compM n c x e with
      | some i, some y => some (.set i y)
      | _, _ => none
    | .Assign [.Tuple ts _ _] e _ => match namesT c ts with
      | none => none
      | some is => if isCompE e then none else match e with
        | .Tuple vs _ _ => match swapB c.sc ts vs with
          | none => none
          | some false => (compE n c e).map (.setT is)
          | some true => compPar n c is vs
        | e => (compE n c e).map (.setT is)
    | .Assign [.Subscript o i _] e _ => if isSliceE i = true ∨ isCompE e = true then none else match compE n c o, compE n c i, compE n c e with
      | some x, some y, some z => some (.ixset x y z)
      | _, _, _ => none
    | .Return (some e) _ => (compM n c "return" e).map .ret
    | .If t a b _ => if testOk n t then match compE n c t, compB n c a, compB n c b with
        | some x, some y, some z => some (.if_ x y z)
        | _, _, _ => none
      else none
    | .For tg iter body [] _ => match compTg c tg, compI n c tg iter, compB n c body with
      | some t, some i, some b => some (.for_ t i b)
      | _, _, _ => none
    | .While t body [] _ => if testOk n t then match compE n c t, compB n c body with
        | some x, some b => some (.while_ x b)
        | _, _ => none
      else none
    | .Raise (some (.Call (.Name x _) [.Constant (.str _) _ _] [] _)) none _ => if c.isGl x = true ∧ (x == ("__debug__" : Str)) = false ∧ x ∈ c.excs then (excNames.idxOf? x).map .raise_ else none
    | _ => none
def compB : Nat → Ctx → List Stmt → Option CS
  | 0, _, _ => none
  | _ + 1, _, [] => some .skip
  | n + 1, c, s :: r => match r with
    | [] => compS n c s
    | t :: r => match compS n c s, compB n c (t :: r) with
      | some x, some y => some (.seq x y)
      | _, _ => none
end
end Wf
/-! The core's readings, rule by rule. -/
namespace Wf
open PySem PySem.Spec PyProof.Rows L2

abbrev WX' := Value → Option Addr → L2.St → Hp → Prop
section
variable (K : PySem.W.Frag) (cv : Nat → Value) (C : Orc) (W : WX')
def tE (c : CE) : TE := fun σ H Q => ∃ f ps st, SlOk K f H ps σ ∧ StOk K f H st ∧ Post K cv f H (fun cls H' => W cls none σ H') (ev C ps c st) fun x _ f' H' => ∀ v, Rep K f' H' x v → Q v H'
def tT (c : CE) : TT := fun σ H Q => ∃ f ps st, SlOk K f H ps σ ∧ StOk K f H st ∧ Post K cv f H (fun cls H' => W cls none σ H') (ev C ps c st) fun x _ f' H' => ∃ b, x = .bl b ∧ Q b H'
def tA (c : CEs) : TA := fun σ H Q => ∃ f ps st, SlOk K f H ps σ ∧ StOk K f H st ∧ Post K cv f H (fun cls H' => W cls none σ H') (evs C ps c st) fun xs _ f' H' => ∀ vs, Reps K f' H' xs vs → Q vs H'
def tO (c : CEo) : TO := fun σ H Q => ∃ f ps st, SlOk K f H ps σ ∧ StOk K f H st ∧ Post K cv f H (fun cls H' => W cls none σ H') (evo C ps c st) fun x _ f' H' => ∃ i, partOf x i ∧ Q i H'
end
theorem PE.of' {X : Cx} {e : Expr} {t t' : TE} (h : PE X e t) (i : ∀ σ H Q, t' σ H Q → t σ H Q) : PE X e t' := ⟨fun pins s σ H Q I q => h.run pins s σ H Q I (i σ H Q q)⟩
theorem PT.of' {X : Cx} {e : Expr} {t t' : TT} (h : PT X e t) (i : ∀ σ H Q, t' σ H Q → t σ H Q) : PT X e t' := ⟨fun pins s σ H Q I q => h.run pins s σ H Q I (i σ H Q q)⟩
theorem PA.of' {X : Cx} {es : List Expr} {t t' : TA} (h : PA X es t) (i : ∀ σ H Q, t' σ H Q → t σ H Q) : PA X es t' := ⟨fun pos pins s σ H Q I q => h.run pos pins s σ H Q I (i σ H Q q)⟩
theorem PO.of' {X : Cx} {e : Option Expr} {t t' : TO} (h : PO X e t) (i : ∀ σ H Q, t' σ H Q → t σ H Q) : PO X e t' := ⟨fun pins s σ H Q I q => h.run pins s σ H Q I (i σ H Q q)⟩

section
variable {K : PySem.W.Frag} {cv : Nat → Value} {C : Orc} {W : WX'} {σ : L2.St} {H : Hp} {Q : VK}
theorem tE_cst {v : PV} {w : V} (hw : ∀ f H, Rep K f H v w) (h : tE K cv C W (.cst v) σ H Q) : tC w σ H Q := by
  obtain ⟨f, ps, st, sl, so, p⟩ := h
  simp only [ev] at p
  exact p f H (Tr.refl f H) so _ (hw f H)
theorem tE_var {i : Nat} (h : tE K cv C W (.var i) σ H Q) : tVar i σ H Q := by
  obtain ⟨f, ps, st, sl, so, p⟩ := h
  simp only [ev] at p
  split at p
  · rename_i x hx
    obtain ⟨v, h1, h2⟩ := sl.at_ i x hx
    exact ⟨v, h1, p f H (Tr.refl f H) so v h2⟩
  · exact p.elim
theorem tE_op {o : Op} {a b : CE} (h : tE K cv C W (.op o a b) σ H Q) : tOp (rP K o) (tE K cv C W a) (tE K cv C W b) σ H Q := by
  obtain ⟨f, ps, st, sl, so, p⟩ := h
  simp only [ev] at p
  refine ⟨f, ps, st, sl, so, p.bind.imp fun x st1 f1 H1 t1 s1 p1 xv rx => ⟨f1, ps, st1, sl.tr t1 s1, s1, p1.bind.imp fun y st2 f2 H2 t2 s2 p2 yv ry => ?_⟩⟩
  obtain ⟨z, ez, kz⟩ := p2.of
  exact ⟨f2, st2, x, y, z, s2, rx.tr t2, ry, ez, fun f' H' t' s' v rv => kz f' H' t' s' v rv⟩
theorem tE_ix {a b : CE} (h : tE K cv C W (.ix a b) σ H Q) : tOp (rIxP K) (tE K cv C W a) (tE K cv C W b) σ H Q := by
  obtain ⟨f, ps, st, sl, so, p⟩ := h
  simp only [ev] at p
  refine ⟨f, ps, st, sl, so, p.bind.imp fun x st1 f1 H1 t1 s1 p1 xv rx => ⟨f1, ps, st1, sl.tr t1 s1, s1, p1.bind.imp fun y st2 f2 H2 t2 s2 p2 yv ry => ?_⟩⟩
  obtain ⟨z, ez, kz⟩ := p2.of
  exact ⟨f2, st2, x, y, z, s2, rx.tr t2, ry, ez, fun v rv => kz f2 H2 (Tr.refl _ _) s2 v rv⟩
theorem tE_chain {o o2 : Op} {a b c : CE} (h : tE K cv C W (.chain o o2 a b c) σ H Q) : tChain (rP K o) (rP K o2) (tE K cv C W a) (tE K cv C W b) (tE K cv C W c) σ H Q := by
  obtain ⟨f, ps, st, sl, so, p⟩ := h
  simp only [ev] at p
  refine ⟨f, ps, st, sl, so, p.bind.imp fun x st1 f1 H1 t1 s1 p1 xv rx => ⟨f1, ps, st1, sl.tr t1 s1, s1, p1.bind.imp fun y st2 f2 H2 t2 s2 p2 yv ry => ?_⟩⟩
  have ry2 := ry
  split at p2
  · rename_i hz
    refine ⟨f2, st2, x, y, .bl true, s2, rx.tr t2, ry, hz, fun f3 H3 t3 s3 v rv => ?_⟩
    cases rv
    refine ⟨true, rfl, ?_⟩
    rw [if_pos rfl]
    refine ⟨f3, ps, st2, (sl.tr (t1.trans (t2.trans t3)) s3), s3, (p2.tr t3).bind.imp fun z st4 f4 H4 t4 s4 p4 zv rz => ?_⟩
    obtain ⟨q, eq, kq⟩ := p4.of
    exact ⟨f4, st4, y, z, q, s4, (ry.tr (t3.trans t4)), rz, eq, fun f' H' t' s' v rv => kq f' H' t' s' v rv⟩
  · rename_i hz
    refine ⟨f2, st2, x, y, .bl false, s2, rx.tr t2, ry, hz, fun f3 H3 t3 s3 v rv => ?_⟩
    cases rv
    refine ⟨false, rfl, ?_⟩
    rw [if_neg (by decide)]
    exact p2 f3 H3 t3 s3 _ (.bl _)
  · exact p2.elim
theorem tE_and {a b : CE} (h : tE K cv C W (.and_ a b) σ H Q) : tAndV (tE K cv C W a) (tE K cv C W b) σ H Q := by
  obtain ⟨f, ps, st, sl, so, p⟩ := h
  simp only [ev] at p
  refine ⟨f, ps, st, sl, so, p.bind.imp fun x st1 f1 H1 t1 s1 p1 xv rx => ?_⟩
  split at p1
  · cases rx
    exact ⟨true, rfl, by rw [if_pos rfl]; exact ⟨f1, ps, st1, sl.tr t1 s1, s1, p1⟩⟩
  · cases rx
    exact ⟨false, rfl, by rw [if_neg (by decide)]; exact p1 f1 H1 (Tr.refl _ _) s1 _ (.bl _)⟩
  · exact p1.elim
theorem tE_or {a b : CE} (h : tE K cv C W (.or_ a b) σ H Q) : tOrV (tE K cv C W a) (tE K cv C W b) σ H Q := by
  obtain ⟨f, ps, st, sl, so, p⟩ := h
  simp only [ev] at p
  refine ⟨f, ps, st, sl, so, p.bind.imp fun x st1 f1 H1 t1 s1 p1 xv rx => ?_⟩
  split at p1
  · cases rx
    exact ⟨true, rfl, by rw [if_pos rfl]; exact p1 f1 H1 (Tr.refl _ _) s1 _ (.bl _)⟩
  · cases rx
    exact ⟨false, rfl, by rw [if_neg (by decide)]; exact ⟨f1, ps, st1, sl.tr t1 s1, s1, p1⟩⟩
  · exact p1.elim
theorem tE_not {a : CE} (h : tE K cv C W (.not_ a) σ H Q) : tNotV (tE K cv C W a) σ H Q := by
  obtain ⟨f, ps, st, sl, so, p⟩ := h
  simp only [ev] at p
  refine ⟨f, ps, st, sl, so, p.bind.imp fun x st1 f1 H1 t1 s1 p1 xv rx => ?_⟩
  split at p1
  · cases rx
    exact ⟨_, rfl, p1 f1 H1 (Tr.refl _ _) s1 _ (.bl _)⟩
  · exact p1.elim
theorem tE_neg {a : CE} (h : tE K cv C W (.neg a) σ H Q) : tUn (rU fun i => .int (-i)) (tE K cv C W a) σ H Q := by
  obtain ⟨f, ps, st, sl, so, p⟩ := h
  simp only [ev] at p
  refine ⟨f, ps, st, sl, so, p.bind.imp fun x st1 f1 H1 t1 s1 p1 xv rx => ?_⟩
  split at p1
  · cases rx
    exact ⟨_, rfl, p1 f1 H1 (Tr.refl _ _) s1 _ (.int _)⟩
  · exact p1.elim
theorem tE_ite {c a b : CE} (h : tE K cv C W (.ite c a b) σ H Q) : tIf (tT K cv C W c) (tE K cv C W a) (tE K cv C W b) σ H Q := by
  obtain ⟨f, ps, st, sl, so, p⟩ := h
  simp only [ev] at p
  refine ⟨f, ps, st, sl, so, p.bind.imp fun x st1 f1 H1 t1 s1 p1 => ?_⟩
  split at p1
  · exact ⟨true, rfl, iteT ⟨f1, ps, st1, sl.tr t1 s1, s1, p1⟩⟩
  · exact ⟨false, rfl, iteF ⟨f1, ps, st1, sl.tr t1 s1, s1, p1⟩⟩
  · exact p1.elim
theorem tE_tup {es : CEs} (h : tE K cv C W (.tup es) σ H Q) : tTup (tA K cv C W es) σ H Q := by
  obtain ⟨f, ps, st, sl, so, p⟩ := h
  simp only [ev] at p
  refine ⟨f, ps, st, sl, so, p.bind.imp fun xs st1 f1 H1 t1 s1 p1 vs rs => ?_⟩
  split at p1
  · rename_i hl
    exact ⟨by rw [← rs.length, ← SL_eq]; exact hl, fun q hq => p1 f1 _ (Tr.new hq) (s1.new hq) _ (Rep.newTup s1 hq rs)⟩
  · exact p1.elim
theorem tE_lst {es : CEs} (h : tE K cv C W (.lst es) σ H Q) : tLst (tA K cv C W es) σ H Q := by
  obtain ⟨f, ps, st, sl, so, p⟩ := h
  simp only [ev] at p
  refine ⟨f, ps, st, sl, so, p.bind.imp fun xs st1 f1 H1 t1 s1 p1 vs rs => ?_⟩
  split at p1
  · rename_i hl
    exact ⟨by rw [← rs.length, ← SL_eq]; exact hl, fun q hq => p1 f1 _ (Tr.new hq) (s1.new hq) _ (Rep.newLst s1 hq rs)⟩
  · exact p1.elim
theorem tA_nil {Q : List V → Hp → Prop} (h : tA K cv C W .nil σ H Q) : tNil σ H Q := by
  obtain ⟨f, ps, st, sl, so, p⟩ := h
  simp only [evs] at p
  exact p f H (Tr.refl f H) so _ .nil
theorem tA_cons {e : CE} {r : CEs} {Q : List V → Hp → Prop} (h : tA K cv C W (.cons e r) σ H Q) : tCons (tE K cv C W e) (tA K cv C W r) σ H Q := by
  obtain ⟨f, ps, st, sl, so, p⟩ := h
  simp only [evs] at p
  refine ⟨f, ps, st, sl, so, p.bind.imp fun x st1 f1 H1 t1 s1 p1 xv rx => ⟨f1, ps, st1, sl.tr t1 s1, s1, p1.bind.imp fun xs st2 f2 H2 t2 s2 p2 vs rs => ?_⟩⟩
  exact p2 f2 H2 (Tr.refl _ _) s2 _ (.cons (rx.tr t2) rs)
theorem tO_none {Q : Option Int → Hp → Prop} (h : tO K cv C W .none σ H Q) : tNoPart σ H Q := by
  obtain ⟨f, ps, st, sl, so, p⟩ := h
  simp only [evo] at p
  obtain ⟨i, hi, q⟩ := p f H (Tr.refl f H) so
  cases i with
  | none => exact q
  | some j => exact hi.elim
theorem tO_some {e : CE} {Q : Option Int → Hp → Prop} (h : tO K cv C W (.some e) σ H Q) : tPart (tE K cv C W e) σ H Q := by
  obtain ⟨f, ps, st, sl, so, p⟩ := h
  simp only [evo] at p
  refine ⟨f, ps, st, sl, so, p.bind.imp fun x st1 f1 H1 t1 s1 p1 xv rx => ?_⟩
  split at p1
  · obtain ⟨i, hi, q⟩ := p1 f1 H1 (Tr.refl _ _) s1
    cases rx
    cases i with
    | none => exact hi.elim
    | some j =>
      have e : _ = j := hi
      subst e
      exact ⟨_, rfl, q⟩
  · exact p1.elim
/-- a bound is an int or lacks -/
theorem evo_int {ps : Slots} {c : CEo} {st st' : Store} {o : Option PV} (h : evo C ps c st = .ok o st') : ∃ i, partOf o i := by
  cases c with
  | none => simp only [evo] at h; cases h; exact ⟨none, trivial⟩
  | some e =>
    simp only [evo] at h
    cases q : ev C ps e st with
    | no => rw [q] at h; cases h
    | exc _ _ => rw [q] at h; cases h
    | ok v st1 =>
      rw [q] at h
      simp only [R.bind_ok] at h
      split at h
      · cases h; exact ⟨some _, rfl⟩
      · cases h
theorem partOf_some {x : PV} {i : Option Int} (h : partOf (some x) i) : ∃ k, x = .int k ∧ i = some k := by
  cases i with
  | none => cases x <;> exact h.elim
  | some j =>
    cases x with
    | int k =>
      have e : k = j := h
      subst e
      exact ⟨k, rfl, rfl⟩
    | _ => exact h.elim
theorem slP_part {st : Store} {x z : PV} {l h : Option PV} (e : slP st x l h = some z) : (∃ i, partOf l i) ∧ ∃ j, partOf h j := by
  have hb : ∀ {n d k : Nat} {o : Option PV}, bound n d o = some k → ∃ i, partOf o i := fun {n d k o} q => by
    cases o with
    | none => exact ⟨none, trivial⟩
    | some v =>
      cases v with
      | int i => exact ⟨some i, rfl⟩
      | _ => cases q
  unfold slP at e
  split at e
  · split at e
    · rename_i h1 h2; exact ⟨hb h1, hb h2⟩
    · cases e
  · split at e
    · split at e
      · rename_i h1 h2; exact ⟨hb h1, hb h2⟩
      · cases e
    · cases e
  · split at e
    · split at e
      · rename_i h1 h2; exact ⟨hb h1, hb h2⟩
      · cases e
    · cases e
theorem tE_sl {a : CE} {lo hi : CEo} (h : tE K cv C W (.sl a lo hi) σ H Q) : tSl (rSlP K) (tE K cv C W a) (tO K cv C W lo) (tO K cv C W hi) σ H Q := by
  obtain ⟨f, ps, st, sl, so, p⟩ := h
  simp only [ev] at p
  refine ⟨f, ps, st, sl, so, p.bind.imp fun x st1 f1 H1 t1 s1 p1 xv rx => ⟨f1, ps, st1, sl.tr t1 s1, s1, ?_⟩⟩
  cases hlo : evo C ps lo st1 with
  | no => rw [hlo] at p1; exact p1.elim
  | exc c st2 => rw [hlo] at p1; exact p1
  | ok l st2 =>
    rw [hlo] at p1
    simp only [R.bind_ok] at p1
    intro f2 H2 t2 s2
    have p2 := p1.tr t2
    cases hhi : evo C ps hi st2 with
    | no => rw [hhi] at p2; exact p2.elim
    | exc c st3 =>
      rw [hhi] at p2
      obtain ⟨i, hi'⟩ := evo_int hlo
      exact ⟨i, hi', f2, ps, st2, sl.tr (t1.trans t2) s2, s2, by rw [hhi]; exact p2⟩
    | ok hv st3 =>
      rw [hhi] at p2
      simp only [R.bind_ok] at p2
      obtain ⟨z, ez, kz⟩ := p2.of
      obtain ⟨⟨i, hi'⟩, ⟨j, hj⟩⟩ := slP_part ez
      refine ⟨i, hi', f2, ps, st2, sl.tr (t1.trans t2) s2, s2, ?_⟩
      rw [hhi]
      intro f3 H3 t3 s3
      exact ⟨j, hj, f3, st3, x, l, hv, z, s3, rx.tr (t2.trans t3), hi', hj, ez, fun f' H' t' s' v rv => kz f' H' (t3.trans t') s' v rv⟩
end
end Wf
namespace Wf
open PySem PySem.Spec PyProof.Rows L2
/-- list.extend, as the lists stand -/
def rExtR : V → List V → Hp → VK → Prop := fun x vs H Q => ∃ l b xs zs, x = .ref l ∧ vs = [.ref b] ∧ H l = some (.lst xs) ∧ Rd H b (.lst zs) ∧ xs.length + zs.length ≤ sizeLine ∧ Q .non (upd H l (.lst (xs ++ zs)))
theorem mt_extR {X : Cx} : MtM X "list.extend" rExtR := by
  intro pins s σ H x vs v us Q I rx rv h
  obtain ⟨l, b, xs, zs, rfl, rfl, hH, hB, hz, q⟩ := h
  cases rx
  obtain ⟨u, rfl, ru⟩ := rv.one
  cases ru
  obtain ⟨z, its, n, r, hl, e⟩ := I.lstM hH
  obtain ⟨z2, its2, n2, r2, e2⟩ := rdL I hB
  have hl2 := r2.length
  have hsz : its.toArray.size + its2.toArray.size ≤ sizeLine := by rw [List.size_toArray, List.size_toArray]; omega
  have hlong : ¬ (!its.toArray.isEmpty && Builtin.List.listTooLong (its.toArray.size + its2.toArray.size)) = true := by
    rw [notLongL hsz, Bool.and_false]
    exact Bool.false_ne_true
  refine call_meets F.slot_list_extend ⟨_, e, rfl⟩ F.entry_list_extend (F.args_list_extend_2 _ _)
    (AutoSeq1.list_extend_list_list_0 l its.toArray n b its2.toArray n2 hlong (by rw [List.size_toArray]; omega) (by omega)) ⟨e, e2, ?_⟩
  refine ⟨.non, _, I.lset (its' := its ++ its2) hH e (by simp) (r.append r2) ?_, rfl, q⟩
  rw [List.length_append]
  omega
section
variable {K : PySem.W.Frag} {cv : Nat → Value} {C : Orc} {W : WX'} {σ : L2.St} {H : Hp} {Q : VK}
theorem tE_b1 {b : B1} {a : CE} (h : tE K cv C W (.b1 b a) σ H Q) : tCB (rB1 K b) (tCons (tE K cv C W a) tNil) σ H Q := by
  obtain ⟨f, ps, st, sl, so, p⟩ := h
  simp only [ev] at p
  refine ⟨f, ps, st, sl, so, p.bind.imp fun x st1 f1 H1 t1 s1 p1 xv rx => ?_⟩
  obtain ⟨z, ez, kz⟩ := p1.of
  exact ⟨f1, st1, x, xv, z, rfl, s1, rx, ez, fun f' H' t' s' v rv => kz f' H' t' s' v rv⟩
theorem tE_b2 {b : B2} {a c : CE} (h : tE K cv C W (.b2 b a c) σ H Q) :
    tCB (fun vs H Q => ∃ f st x xv y yv z, vs = [xv, yv] ∧ StOk K f H st ∧ Rep K f H x xv ∧ Rep K f H y yv ∧ b2P b x y = some z ∧ ∀ v, Rep K f H z v → Q v H) (tCons (tE K cv C W a) (tCons (tE K cv C W c) tNil)) σ H Q := by
  obtain ⟨f, ps, st, sl, so, p⟩ := h
  simp only [ev] at p
  refine ⟨f, ps, st, sl, so, p.bind.imp fun x st1 f1 H1 t1 s1 p1 xv rx => ⟨f1, ps, st1, sl.tr t1 s1, s1, p1.bind.imp fun y st2 f2 H2 t2 s2 p2 yv ry => ?_⟩⟩
  obtain ⟨z, ez, kz⟩ := p2.of
  exact ⟨f2, st2, x, xv, y, yv, z, rfl, s2, rx.tr t2, ry, ez, fun v rv => kz f2 H2 (Tr.refl _ _) s2 v rv⟩
theorem tE_isi {a : CE} {t : Ty} (h : tE K cv C W (.isi a t) σ H Q) :
    tCB (fun vs H Q => ∃ f st x xv b, vs = [xv, .ty (tyName t)] ∧ StOk K f H st ∧ Rep K f H x xv ∧ isiP x t = some b ∧ Q (.bl b) H) (tCons (tE K cv C W a) (tCons (tC (.ty (tyName t))) tNil)) σ H Q := by
  obtain ⟨f, ps, st, sl, so, p⟩ := h
  simp only [ev] at p
  refine ⟨f, ps, st, sl, so, p.bind.imp fun x st1 f1 H1 t1 s1 p1 xv rx => ?_⟩
  obtain ⟨z, ez, kz⟩ := p1.of
  obtain ⟨b, eb, rfl⟩ := map_bl ez
  exact ⟨f1, st1, x, xv, b, rfl, s1, rx, eb, kz f1 H1 (Tr.refl _ _) s1 _ (.bl _)⟩
theorem tE_m1 {m : M1} {o a : CE} (h : tE K cv C W (.m1 m o a) σ H Q) : tBM K "str" (rM1 K m) (tE K cv C W o) (tCons (tE K cv C W a) tNil) σ H Q := by
  obtain ⟨f, ps, st, sl, so, p⟩ := h
  simp only [ev] at p
  refine ⟨f, ps, st, sl, so, p.bind.imp fun x st1 f1 H1 t1 s1 p1 xv rx => ?_⟩
  split at p1
  · rename_i hs
    refine ⟨?_, f1, ps, st1, sl.tr t1 s1, s1, p1.bind.imp fun y st2 f2 H2 t2 s2 p2 yv ry => ?_⟩
    · cases x with
      | str t => cases rx; rfl
      | _ => cases hs
    · obtain ⟨z, ez, kz⟩ := p2.of
      exact ⟨f2, st2, x, y, yv, z, rfl, s2, rx.tr t2, ry, ez, fun v rv => kz f2 H2 (Tr.refl _ _) s2 v rv⟩
  · exact p1.elim
theorem isLst_ty {st : Store} {f : Fm} {x : PV} {xv : V} (s : StOk K f H st) (r : Rep K f H x xv) (h : isLst st x = true) : tyV K "list" xv H := by
  cases x with
  | loc n =>
    cases r with
    | loc hn =>
      have h2 : (match st[n]? with | some (.lst _) => true | _ => false) = true := h
      cases e : st[n]? with
      | none => rw [e] at h2; cases h2
      | some o =>
        rw [e] at h2
        cases o with
        | lst ys =>
          obtain ⟨vs, hv, _⟩ := s.obj n _ _ hn e
          exact .inl ⟨rfl, vs, SqL.of hv⟩
        | _ => cases h2
  | _ => cases h
theorem tE_mapp {o a : CE} (h : tE K cv C W (.mapp o a) σ H Q) : tBM K "list" rAppend (tE K cv C W o) (tCons (tE K cv C W a) tNil) σ H Q := by
  obtain ⟨f, ps, st, sl, so, p⟩ := h
  simp only [ev] at p
  refine ⟨f, ps, st, sl, so, p.bind.imp fun x st1 f1 H1 t1 s1 p1 xv rx => ?_⟩
  split at p1
  · rename_i hs
    refine ⟨isLst_ty s1 rx hs, f1, ps, st1, sl.tr t1 s1, s1, p1.bind.imp fun y st2 f2 H2 t2 s2 p2 yv ry => ?_⟩
    split at p2
    · rename_i n
      split at p2
      · rename_i xs hx
        split at p2
        · rename_i hl
          have rx2 := rx.tr t2
          cases rx2 with
          | loc hn =>
            rename_i p0
            obtain ⟨vs, hv, rs⟩ := s2.obj n _ _ hn hx
            have hp : p0 ∈ f2.l := List.mem_of_getElem? hn
            have t3 : Tr f2 H2 f2 (upd H2 p0 (.lst (vs ++ [yv]))) := Tr.write hp (s2.liv _ hp)
            refine ⟨p0, vs, yv, rfl, rfl, hv, by rw [← rs.length, ← SL_eq]; exact hl, p2 f2 _ t3 ?_ _ .non⟩
            exact s2.write hn ⟨_, upd_same, ((rs.append (.cons ry .nil)).tr t3)⟩
        · exact p2.elim
      · exact p2.elim
    · exact p2.elim
  · exact p1.elim
theorem tE_mext {o a : CE} (h : tE K cv C W (.mext o a) σ H Q) : tBM K "list" rExtR (tE K cv C W o) (tCons (tE K cv C W a) tNil) σ H Q := by
  obtain ⟨f, ps, st, sl, so, p⟩ := h
  simp only [ev] at p
  refine ⟨f, ps, st, sl, so, p.bind.imp fun x st1 f1 H1 t1 s1 p1 xv rx => ?_⟩
  split at p1
  · rename_i hs
    refine ⟨isLst_ty s1 rx hs, f1, ps, st1, sl.tr t1 s1, s1, p1.bind.imp fun y st2 f2 H2 t2 s2 p2 yv ry => ?_⟩
    split at p2
    · rename_i n ys
      split at p2
      · rename_i xs hx
        split at p2
        · rename_i hl
          have rx2 := rx.tr t2
          cases rx2 with
          | loc hn =>
            rename_i p0
            cases ry with
            | lst hb nb rb =>
              rename_i bv
              obtain ⟨vs, hv, rs⟩ := s2.obj n _ _ hn hx
              have hp : p0 ∈ f2.l := List.mem_of_getElem? hn
              have t3 : Tr f2 H2 f2 (upd H2 p0 (.lst (vs ++ bv))) := Tr.write hp (s2.liv _ hp)
              refine ⟨p0, _, vs, bv, rfl, rfl, hv, hb, by rw [← rs.length, ← rb.length, ← SL_eq]; exact hl, p2 f2 _ t3 ?_ _ .non⟩
              exact s2.write hn ⟨_, upd_same, ((rs.append rb).tr t3)⟩
        · exact p2.elim
      · exact p2.elim
    · exact p2.elim
  · exact p1.elim
theorem tE_newcat {a b : CE} (h : tE K cv C W (.newcat a b) σ H Q) : tOp rCatR (tE K cv C W a) (tE K cv C W b) σ H Q := by
  obtain ⟨f, ps, st, sl, so, p⟩ := h
  simp only [ev] at p
  refine ⟨f, ps, st, sl, so, p.bind.imp fun x st1 f1 H1 t1 s1 p1 xv rx => ⟨f1, ps, st1, sl.tr t1 s1, s1, p1.bind.imp fun y st2 f2 H2 t2 s2 p2 yv ry => ?_⟩⟩
  split at p2
  · rename_i xs ys hx hy
    split at p2
    · rename_i hl
      obtain ⟨a1, v1, e1, h1, r1⟩ := listOf_rd s2 (rx.tr t2) hx
      obtain ⟨a2, v2, e2, h2, r2⟩ := listOf_rd s2 ry hy
      subst e1 e2
      refine ⟨a1, a2, v1, v2, rfl, rfl, h1, h2, by rw [← r1.length, ← r2.length, ← SL_eq]; exact hl, fun q hq => ?_⟩
      have s3 : StOk K (f2.snoc q) (upd H2 q (.lst (v1 ++ v2))) (st2 ++ [.lst (xs ++ ys)]) := s2.newLoc hq ⟨_, upd_same, (r1.append r2).tr (Tr.newLoc hq)⟩
      refine p2 (f2.snoc q) _ (Tr.newLoc hq) s3 _ (.loc ?_)
      show (f2.l ++ [q])[st2.length]? = some q
      rw [← s2.len, List.getElem?_append_right (Nat.le_refl _)]
      simp
    · exact p2.elim
  · exact p2.elim
theorem tE_newl {es : CEs} (h : tE K cv C W (.newl es) σ H Q) : tLst (tA K cv C W es) σ H Q := by
  obtain ⟨f, ps, st, sl, so, p⟩ := h
  simp only [ev] at p
  refine ⟨f, ps, st, sl, so, p.bind.imp fun xs st1 f1 H1 t1 s1 p1 vs rs => ?_⟩
  split at p1
  · rename_i hl
    refine ⟨by rw [← rs.length, ← SL_eq]; exact hl, fun q hq => ?_⟩
    have s2 : StOk K (f1.snoc q) (upd H1 q (.lst vs)) (st1 ++ [.lst xs]) := s1.newLoc hq ⟨vs, upd_same, rs.tr (Tr.newLoc hq)⟩
    refine p1 (f1.snoc q) _ (Tr.newLoc hq) s2 _ (.loc ?_)
    show (f1.l ++ [q])[st1.length]? = some q
    rw [← s1.len, List.getElem?_append_right (Nat.le_refl _)]
    simp
  · exact p1.elim
end
end Wf
namespace Wf
open PySem PySem.Spec PyProof.Rows L2

/-! ### a list that a comprehension is making -/
theorem rd_priv {f : Fm} {H : Hp} {D a : Addr} {o u : HO} (hD : H D = none) (h : Rd H a u) (n : a ∉ f.bar) : Rd (upd H D o) a u ∧ a ∉ (f.priv D).bar := by
  have key : ∀ {v : HO}, H a = some v → upd H D o a = some v ∧ a ∉ (f.priv D).bar := fun {v} e => by
    have ne := ne_of_none e hD
    refine ⟨by rw [upd_ne ne]; exact e, Fm.notBar (f := f.priv D) (show a ∉ f.l from Fm.notL n) ?_⟩
    intro z
    rcases List.mem_cons.mp z with z | z
    · exact ne z
    · exact Fm.notZ n z
  rcases h with h | ⟨ob, h⟩
  · exact ⟨.inl (key h).1, (key h).2⟩
  · exact ⟨.inr ⟨ob, (key h).1⟩, (key h).2⟩
mutual
theorem Rep.priv {K : PySem.W.Frag} {f : Fm} {H : Hp} {D : Addr} {o : HO} (hD : H D = none) : ∀ {x : PV} {v : V}, Rep K f H x v → Rep K (f.priv D) (upd H D o) x v
  | _, _, .non => .non
  | _, _, .bl b => .bl b
  | _, _, .int i => .int i
  | _, _, .str x => .str x
  | _, _, .tup h n r => .tup (rd_priv (o := o) hD h n).1 (rd_priv (o := o) hD h n).2 (Reps.priv hD r)
  | _, _, .tupK h r => .tupK h (Reps.priv hD r)
  | _, _, .lst h n r => .lst (rd_priv (o := o) hD h n).1 (rd_priv (o := o) hD h n).2 (Reps.priv hD r)
  | _, _, .scr h n r => .scr (rd_priv (o := o) hD h n).1 (rd_priv (o := o) hD h n).2 (Reps.priv hD r)
  | _, _, .scrK h r => .scrK h (Reps.priv hD r)
  | _, _, .loc h => .loc h
theorem Reps.priv {K : PySem.W.Frag} {f : Fm} {H : Hp} {D : Addr} {o : HO} (hD : H D = none) : ∀ {x : List PV} {v : List V}, Reps K f H x v → Reps K (f.priv D) (upd H D o) x v
  | _, _, .nil => .nil
  | _, _, .cons a b => .cons (Rep.priv hD a) (Reps.priv hD b)
end
/-- .. is changed: nobody names it -/
theorem rd_upd {f : Fm} {H : Hp} {D a : Addr} {o u : HO} (hD : D ∈ f.z) (h : Rd H a u) (n : a ∉ f.bar) : Rd (upd H D o) a u := by
  have ne : a ≠ D := fun q => Fm.notZ n (by rw [q]; exact hD)
  rcases h with h | ⟨ob, h⟩
  · exact .inl (by rw [upd_ne ne]; exact h)
  · exact .inr ⟨ob, by rw [upd_ne ne]; exact h⟩
mutual
theorem Rep.updZ {K : PySem.W.Frag} {f : Fm} {H : Hp} {D : Addr} {o : HO} (hD : D ∈ f.z) : ∀ {x : PV} {v : V}, Rep K f H x v → Rep K f (upd H D o) x v
  | _, _, .non => .non
  | _, _, .bl b => .bl b
  | _, _, .int i => .int i
  | _, _, .str x => .str x
  | _, _, .tup h n r => .tup (rd_upd hD h n) n (Reps.updZ hD r)
  | _, _, .tupK h r => .tupK h (Reps.updZ hD r)
  | _, _, .lst h n r => .lst (rd_upd hD h n) n (Reps.updZ hD r)
  | _, _, .scr h n r => .scr (rd_upd hD h n) n (Reps.updZ hD r)
  | _, _, .scrK h r => .scrK h (Reps.updZ hD r)
  | _, _, .loc h => .loc h
theorem Reps.updZ {K : PySem.W.Frag} {f : Fm} {H : Hp} {D : Addr} {o : HO} (hD : D ∈ f.z) : ∀ {x : List PV} {v : List V}, Reps K f H x v → Reps K f (upd H D o) x v
  | _, _, .nil => .nil
  | _, _, .cons a b => .cons (Rep.updZ hD a) (Reps.updZ hD b)
end
/-- fewer secrets -/
theorem bar_sub {f g : Fm} (hl : g.l = f.l) (hz : ∀ a ∈ g.z, a ∈ f.z) {a : Addr} (n : a ∉ f.bar) : a ∉ g.bar :=
  Fm.notBar (by rw [hl]; exact Fm.notL n) fun q => Fm.notZ n (hz a q)
mutual
theorem Rep.open_ {K : PySem.W.Frag} {f g : Fm} {H : Hp} (hl : g.l = f.l) (hz : ∀ a ∈ g.z, a ∈ f.z) : ∀ {x : PV} {v : V}, Rep K f H x v → Rep K g H x v
  | _, _, .non => .non
  | _, _, .bl b => .bl b
  | _, _, .int i => .int i
  | _, _, .str x => .str x
  | _, _, .tup h n r => .tup h (bar_sub hl hz n) (Reps.open_ hl hz r)
  | _, _, .tupK h r => .tupK h (Reps.open_ hl hz r)
  | _, _, .lst h n r => .lst h (bar_sub hl hz n) (Reps.open_ hl hz r)
  | _, _, .scr h n r => .scr h (bar_sub hl hz n) (Reps.open_ hl hz r)
  | _, _, .scrK h r => .scrK h (Reps.open_ hl hz r)
  | _, _, .loc h => .loc (by rw [hl]; exact h)
theorem Reps.open_ {K : PySem.W.Frag} {f g : Fm} {H : Hp} (hl : g.l = f.l) (hz : ∀ a ∈ g.z, a ∈ f.z) : ∀ {x : List PV} {v : List V}, Reps K f H x v → Reps K g H x v
  | _, _, .nil => .nil
  | _, _, .cons a b => .cons (Rep.open_ hl hz a) (Reps.open_ hl hz b)
end
section
variable {K : PySem.W.Frag} {f g : Fm} {H : Hp} {st : Store} {D : Addr} {o : HO}
theorem StOk.priv (s : StOk K f H st) (hD : H D = none) : StOk K (f.priv D) (upd H D o) st := by
  have hb := s.notIn hD
  refine ⟨s.len, s.nd, fun n a so h1 h2 => ?_, fun a ha => ?_⟩
  · have h := s.obj n a so h1 h2
    cases so with
    | lst xs =>
      obtain ⟨vs, e, r⟩ := h
      exact ⟨vs, by rw [upd_ne (ne_of_none e hD)]; exact e, r.priv hD⟩
    | _ => exact h.elim
  · rcases List.mem_cons.mp ha with z | z
    · rw [z]
      exact ⟨by rw [upd_same]; simp, show D ∉ f.l from Fm.notL hb⟩
    · refine ⟨fun q => (s.zl a z).1 ((Tr.new (f := f) (o := o) hD).live a q), (s.zl a z).2⟩
theorem StOk.updZ (s : StOk K f H st) (hD : D ∈ f.z) : StOk K f (upd H D o) st := by
  refine ⟨s.len, s.nd, fun n a so h1 h2 => ?_, fun a ha => ⟨fun q => ?_, (s.zl a ha).2⟩⟩
  · have h := s.obj n a so h1 h2
    have ne : a ≠ D := fun q => (s.zl D hD).2 (by rw [← q]; exact List.mem_of_getElem? h1)
    cases so with
    | lst xs =>
      obtain ⟨vs, e, r⟩ := h
      exact ⟨vs, by rw [upd_ne ne]; exact e, r.updZ hD⟩
    | _ => exact h.elim
  · by_cases e : a = D
    · rw [e, upd_same] at q; cases q
    · rw [upd_ne e] at q; exact (s.zl a ha).1 q
theorem StOk.open_ (s : StOk K f H st) (hl : g.l = f.l) (hz : ∀ a ∈ g.z, a ∈ f.z) : StOk K g H st := by
  refine ⟨by rw [hl]; exact s.len, by rw [hl]; exact s.nd, fun n a so h1 h2 => ?_, fun a ha => ?_⟩
  · rw [hl] at h1
    have h := s.obj n a so h1 h2
    cases so with
    | lst xs =>
      obtain ⟨vs, e, r⟩ := h
      exact ⟨vs, e, r.open_ hl hz⟩
    | _ => exact h.elim
  · rw [hl]
    exact s.zl a (hz a ha)
theorem SlOk.priv {ps : Slots} {σ : L2.St} (s : SlOk K f H ps σ) (hD : H D = none) : SlOk K (f.priv D) (upd H D o) ps σ :=
  ⟨s.len, fun i x e => let ⟨v, h1, h2⟩ := s.at_ i x e; ⟨v, h1, h2.priv hD⟩⟩
theorem SlOk.updZ {ps : Slots} {σ : L2.St} (s : SlOk K f H ps σ) (hD : D ∈ f.z) : SlOk K f (upd H D o) ps σ :=
  ⟨s.len, fun i x e => let ⟨v, h1, h2⟩ := s.at_ i x e; ⟨v, h1, h2.updZ hD⟩⟩
end
/-! ### later states, with more secrets -/
structure Le (f : Fm) (H : Hp) (f' : Fm) (H' : Hp) : Prop where
  ext : ∃ g, f'.l = f.l ++ g ∧ ∀ p ∈ g, H p = none
  zz : ∀ a ∈ f'.z, a ∈ f.z ∨ H a = none
  keep : ∀ a o, H a = some o → a ∉ f.l → H' a = some o
  live : ∀ a, H' a = none → H a = none
section
variable {f f1 f2 f' : Fm} {H H1 H2 H' : Hp} {D : Addr} {o : HO}
theorem Tr.le (t : Tr f H f' H') : Le f H f' H' := ⟨t.ext, fun a h => .inl (by rw [← t.zz]; exact h), t.keep, t.live⟩
theorem Le.out (t : Le f H f' H') {a : Addr} {u : HO} (e : H a = some u) (n : a ∉ f.l) : a ∉ f'.l := fun z => by
  obtain ⟨g, eg, hg⟩ := t.ext
  rw [eg] at z
  rcases List.mem_append.mp z with z | z
  · exact n z
  · rw [hg a z] at e; cases e
theorem Le.trans (a : Le f H f1 H1) (b : Le f1 H1 f2 H2) : Le f H f2 H2 := by
  obtain ⟨g, eg, hg⟩ := a.ext
  obtain ⟨g2, eg2, hg2⟩ := b.ext
  refine ⟨⟨g ++ g2, by rw [eg2, eg]; simp, fun p hp => ?_⟩, fun c hc => ?_, fun c u e n => b.keep c u (a.keep c u e n) (a.out e n), fun p e => a.live p (b.live p e)⟩
  · rcases List.mem_append.mp hp with h | h
    · exact hg p h
    · exact a.live p (hg2 p h)
  · rcases b.zz c hc with h | h
    · exact a.zz c h
    · exact .inr (a.live c h)
theorem Le.priv (h : H D = none) : Le f H (f.priv D) (upd H D o) :=
  ⟨⟨[], by simp [Fm.priv], by simp⟩, fun a ha => by
    rcases List.mem_cons.mp ha with z | z
    · exact .inr (by rw [z]; exact h)
    · exact .inl z, (Tr.new (f := f) h).keep, (Tr.new (f := f) h).live⟩
theorem Le.updZ (t : Le f H f' H') (h : H D = none) : Le f H f' (upd H' D o) :=
  ⟨t.ext, t.zz, fun a u e n => by rw [upd_ne (ne_of_none e h)]; exact t.keep a u e n, fun a e => by
    by_cases q : a = D
    · rw [q]; exact h
    · rw [upd_ne q] at e; exact t.live a e⟩
theorem rd_le {a : Addr} {u : HO} (t : Le f H f' H') (h : Rd H a u) (n : a ∉ f.bar) : Rd H' a u ∧ a ∉ f'.bar := by
  have key : ∀ {v : HO}, H a = some v → H' a = some v ∧ a ∉ f'.bar := fun {v} e =>
    ⟨t.keep a _ e (Fm.notL n), Fm.notBar (t.out e (Fm.notL n)) fun z => by
      rcases t.zz a z with z | z
      · exact Fm.notZ n z
      · rw [z] at e; cases e⟩
  rcases h with h | ⟨ob, h⟩
  · exact ⟨.inl (key h).1, (key h).2⟩
  · exact ⟨.inr ⟨ob, (key h).1⟩, (key h).2⟩
end
mutual
theorem Rep.le {K : PySem.W.Frag} {f f' : Fm} {H H' : Hp} (t : Le f H f' H') : ∀ {x : PV} {v : V}, Rep K f H x v → Rep K f' H' x v
  | _, _, .non => .non
  | _, _, .bl b => .bl b
  | _, _, .int i => .int i
  | _, _, .str x => .str x
  | _, _, .tup h n r => .tup (rd_le t h n).1 (rd_le t h n).2 (Reps.le t r)
  | _, _, .tupK h r => .tupK h (Reps.le t r)
  | _, _, .lst h n r => .lst (rd_le t h n).1 (rd_le t h n).2 (Reps.le t r)
  | _, _, .scr h n r => .scr (rd_le t h n).1 (rd_le t h n).2 (Reps.le t r)
  | _, _, .scrK h r => .scrK h (Reps.le t r)
  | _, _, .loc h => .loc (by
      obtain ⟨g, eg, hg⟩ := t.ext
      rw [eg, List.getElem?_append_left (List.getElem?_eq_some_iff.mp h).1]
      exact h)
theorem Reps.le {K : PySem.W.Frag} {f f' : Fm} {H H' : Hp} (t : Le f H f' H') : ∀ {x : List PV} {v : List V}, Reps K f H x v → Reps K f' H' x v
  | _, _, .nil => .nil
  | _, _, .cons a b => .cons (Rep.le t a) (Reps.le t b)
end
theorem SlOk.le {K : PySem.W.Frag} {f f' : Fm} {H H' : Hp} {ps : Slots} {σ : L2.St} (s : SlOk K f H ps σ) (t : Le f H f' H') : SlOk K f' H' ps σ :=
  ⟨s.len, fun i x e => let ⟨v, h1, h2⟩ := s.at_ i x e; ⟨v, h1, h2.le t⟩⟩
/-! ### later states in which a list that is being made has grown -/
structure Lf (f : Fm) (H : Hp) (f' : Fm) (H' : Hp) : Prop where
  ext : ∃ g, f'.l = f.l ++ g ∧ ∀ p ∈ g, H p = none
  zz : ∀ a ∈ f'.z, a ∈ f.z ∨ H a = none
  keep : ∀ a o, H a = some o → a ∉ f.bar → H' a = some o
  live : ∀ a, H' a = none → H a = none
section
variable {f f1 f2 f' : Fm} {H H1 H2 H' : Hp} {D : Addr} {o : HO}
theorem Le.lf (t : Le f H f' H') : Lf f H f' H' := ⟨t.ext, t.zz, fun a o e n => t.keep a o e (Fm.notL n), t.live⟩
theorem Tr.lf (t : Tr f H f' H') : Lf f H f' H' := t.le.lf
theorem Lf.refl (f : Fm) (H : Hp) : Lf f H f H := (Tr.refl f H).lf
theorem Lf.out (t : Lf f H f' H') {a : Addr} {u : HO} (e : H a = some u) (n : a ∉ f.bar) : a ∉ f'.bar := by
  refine Fm.notBar (fun z => ?_) fun z => ?_
  · obtain ⟨g, eg, hg⟩ := t.ext
    rw [eg] at z
    rcases List.mem_append.mp z with z | z
    · exact Fm.notL n z
    · rw [hg a z] at e; cases e
  · rcases t.zz a z with z | z
    · exact Fm.notZ n z
    · rw [z] at e; cases e
theorem Lf.trans (a : Lf f H f1 H1) (b : Lf f1 H1 f2 H2) : Lf f H f2 H2 := by
  obtain ⟨g, eg, hg⟩ := a.ext
  obtain ⟨g2, eg2, hg2⟩ := b.ext
  refine ⟨⟨g ++ g2, by rw [eg2, eg]; simp, fun p hp => ?_⟩, fun c hc => ?_, fun c u e n => b.keep c u (a.keep c u e n) (a.out e n), fun p e => a.live p (b.live p e)⟩
  · rcases List.mem_append.mp hp with h | h
    · exact hg p h
    · exact a.live p (hg2 p h)
  · rcases b.zz c hc with h | h
    · exact a.zz c h
    · exact .inr (a.live c h)
theorem Lf.updZ (t : Lf f H f' H') (h : D ∈ f.z) (hl : H' D ≠ none) : Lf f H f' (upd H' D o) :=
  ⟨t.ext, t.zz, fun a u e n => by
    rw [upd_ne fun q => Fm.notZ n (by rw [q]; exact h)]
    exact t.keep a u e n, fun a e => by
    by_cases q : a = D
    · subst q; rw [upd_same] at e; cases e
    · rw [upd_ne q] at e; exact t.live a e⟩
theorem rd_lf {a : Addr} {u : HO} (t : Lf f H f' H') (h : Rd H a u) (n : a ∉ f.bar) : Rd H' a u ∧ a ∉ f'.bar := by
  rcases h with h | ⟨o, h⟩
  · exact ⟨.inl (t.keep a _ h n), t.out h n⟩
  · exact ⟨.inr ⟨o, t.keep a _ h n⟩, t.out h n⟩
end
mutual
theorem Rep.lf {K : PySem.W.Frag} {f f' : Fm} {H H' : Hp} (t : Lf f H f' H') : ∀ {x : PV} {v : V}, Rep K f H x v → Rep K f' H' x v
  | _, _, .non => .non
  | _, _, .bl b => .bl b
  | _, _, .int i => .int i
  | _, _, .str x => .str x
  | _, _, .tup h n r => .tup (rd_lf t h n).1 (rd_lf t h n).2 (Reps.lf t r)
  | _, _, .tupK h r => .tupK h (Reps.lf t r)
  | _, _, .lst h n r => .lst (rd_lf t h n).1 (rd_lf t h n).2 (Reps.lf t r)
  | _, _, .scr h n r => .scr (rd_lf t h n).1 (rd_lf t h n).2 (Reps.lf t r)
  | _, _, .scrK h r => .scrK h (Reps.lf t r)
  | _, _, .loc h => .loc (by
      obtain ⟨g, eg, hg⟩ := t.ext
      rw [eg, List.getElem?_append_left (List.getElem?_eq_some_iff.mp h).1]
      exact h)
theorem Reps.lf {K : PySem.W.Frag} {f f' : Fm} {H H' : Hp} (t : Lf f H f' H') : ∀ {x : List PV} {v : List V}, Reps K f H x v → Reps K f' H' x v
  | _, _, .nil => .nil
  | _, _, .cons a b => .cons (Rep.lf t a) (Reps.lf t b)
end
theorem SlOk.lf {K : PySem.W.Frag} {f f' : Fm} {H H' : Hp} {ps : Slots} {σ : L2.St} (s : SlOk K f H ps σ) (t : Lf f H f' H') : SlOk K f' H' ps σ :=
  ⟨s.len, fun i x e => let ⟨v, h1, h2⟩ := s.at_ i x e; ⟨v, h1, h2.lf t⟩⟩
/-! ### what is walked -/
/-- from a state on, J walks what src tells -/
structure SrcOk (K : PySem.W.Frag) (f0 : Fm) (H0 : Hp) (src : Src) (J : It) : Prop where
  stop : ∀ (f : Fm) (H : Hp) (st : Store) (i : Nat), Lf f0 H0 f H → StOk K f H st → src.next i st = some none → J.stop i H
  go : ∀ (f : Fm) (H : Hp) (st : Store) (i : Nat) (v : PV), Lf f0 H0 f H → StOk K f H st → src.next i st = some (some v) →
    J.go i H ∧ ∀ x H', J.yld i H x H' → Tr f H f H' ∧ StOk K f H' st ∧ Rep K f H' v x
section
variable {K : PySem.W.Frag} {f0 : Fm} {H0 : Hp}
theorem src_lst {a : Addr} {xs : List PV} {vs : List V} (h : Rd H0 a (.lst vs)) (n : a ∉ f0.bar) (r : Reps K f0 H0 xs vs) : SrcOk K f0 H0 (.vals xs) (Itl K a) where
  stop := fun f H st i t s e => by
    have e2 : xs[i]? = none := Option.some.inj e
    exact ⟨vs, .inl (rd_lf t h n).1, by rw [← r.length]; exact List.getElem?_eq_none_iff.mp e2⟩
  go := fun f H st i v t s e => by
    have e2 : xs[i]? = some v := Option.some.inj e
    obtain ⟨w, h1, h2⟩ := r.get e2
    have hr : SqL K H a vs := .inl (rd_lf t h n).1
    refine ⟨⟨vs, w, hr, h1⟩, fun x H' y => ?_⟩
    obtain ⟨e3, y⟩ := y
    subst e3
    have := y vs hr
    rw [h1] at this
    cases this
    exact ⟨Tr.refl _ _, s, h2.lf t⟩
theorem src_tup {a : Addr} {xs : List PV} {vs : List V} (h : Rd H0 a (.tup vs) ∧ a ∉ f0.bar ∨ KTup K a vs) (r : Reps K f0 H0 xs vs) : SrcOk K f0 H0 (.vals xs) (Itt K a) := by
  have hr : ∀ f H, Lf f0 H0 f H → SqT K H a vs := fun f H t => by
    rcases h with ⟨h, n⟩ | h
    · exact .inl (rd_lf t h n).1
    · exact .inr h
  refine ⟨fun f H st i t s e => ?_, fun f H st i v t s e => ?_⟩
  · have e2 : xs[i]? = none := Option.some.inj e
    exact ⟨vs, hr f H t, by rw [← r.length]; exact List.getElem?_eq_none_iff.mp e2⟩
  · have e2 : xs[i]? = some v := Option.some.inj e
    obtain ⟨w, h1, h2⟩ := r.get e2
    refine ⟨⟨vs, w, hr f H t, h1⟩, fun x H' y => ?_⟩
    obtain ⟨e3, y⟩ := y
    subst e3
    have := y vs (hr f _ t)
    rw [h1] at this
    cases this
    exact ⟨Tr.refl _ _, s, h2.lf t⟩
theorem src_str {t : Txt} : SrcOk K f0 H0 (.vals (t.map fun c => .str [c])) (Its ⟨t.toArray⟩) where
  stop := fun f H st i _ s e => by
    have e2 : (t.map fun c => PV.str [c])[i]? = none := Option.some.inj e
    have := List.getElem?_eq_none_iff.mp e2
    show (t.toArray).size ≤ i
    simpa using this
  go := fun f H st i v _ s e => by
    have e2 : (t.map fun c => PV.str [c])[i]? = some v := Option.some.inj e
    rw [List.getElem?_map] at e2
    cases q : t[i]? with
    | none => rw [q] at e2; cases e2
    | some c =>
      rw [q] at e2
      cases e2
      have hl := (List.getElem?_eq_some_iff.mp q).1
      refine ⟨by show i < (t.toArray).size; simpa using hl, fun x H' y => ?_⟩
      obtain ⟨e3, c', hc, ex⟩ := y
      subst e3 ex
      have hc2 : t[i]? = some c' := by simpa using hc
      rw [q] at hc2
      cases hc2
      exact ⟨Tr.refl _ _, s, .str [c]⟩
theorem src_rng {n : Nat} : SrcOk K f0 H0 (.vals ((List.range n).map fun k => .int (k : Nat))) (Itr 0 n) where
  stop := fun f H st i _ s e => by
    have e2 : ((List.range n).map fun k => PV.int (k : Nat))[i]? = none := Option.some.inj e
    have := List.getElem?_eq_none_iff.mp e2
    show n ≤ i
    simpa using this
  go := fun f H st i v _ s e => by
    have e2 : ((List.range n).map fun k => PV.int (k : Nat))[i]? = some v := Option.some.inj e
    rw [List.getElem?_map] at e2
    cases q : (List.range n)[i]? with
    | none => rw [q] at e2; cases e2
    | some c =>
      rw [q] at e2
      cases e2
      have hl := (List.getElem?_eq_some_iff.mp q).1
      have hc := (List.getElem?_eq_some_iff.mp q).2
      simp at hl hc
      subst hc
      refine ⟨hl, fun x H' y => ?_⟩
      obtain ⟨e3, ex⟩ := y
      subst e3 ex
      refine ⟨Tr.refl _ _, s, ?_⟩
      have : (0 : Int) + (i : Nat) = ((i : Nat) : Int) := by omega
      rw [this]
      exact .int _
theorem src_loc {n : Nat} {a : Addr} (h : f0.l[n]? = some a) : SrcOk K f0 H0 (.locl n) (Itl K a) := by
  have at_ : ∀ (f : Fm) (H : Hp) (st : Store) (i : Nat) (q : Option PV), Lf f0 H0 f H → StOk K f H st → (Src.locl n).next i st = some q → ∃ xs vs, xs[i]? = q ∧ H a = some (.lst vs) ∧ Reps K f H xs vs := fun f H st i q t s e => by
    have e2 : (match st[n]? with | some (.lst xs) => some xs[i]? | _ => none) = some q := e
    have hn : f.l[n]? = some a := by
      obtain ⟨g, eg, hg⟩ := t.ext
      rw [eg, List.getElem?_append_left (List.getElem?_eq_some_iff.mp h).1]
      exact h
    cases e3 : st[n]? with
    | none => rw [e3] at e2; cases e2
    | some ob =>
      rw [e3] at e2
      cases ob with
      | lst xs =>
        obtain ⟨vs, hv, rs⟩ := s.obj n a _ hn e3
        exact ⟨xs, vs, Option.some.inj e2, hv, rs⟩
      | _ => cases e2
  refine ⟨fun f H st i t s e => ?_, fun f H st i v t s e => ?_⟩
  · obtain ⟨xs, vs, e2, hv, rs⟩ := at_ f H st i _ t s e
    exact ⟨vs, SqL.of hv, by rw [← rs.length]; exact List.getElem?_eq_none_iff.mp e2⟩
  · obtain ⟨xs, vs, e2, hv, rs⟩ := at_ f H st i _ t s e
    obtain ⟨w, h1, h2⟩ := rs.get e2
    refine ⟨⟨vs, w, SqL.of hv, h1⟩, fun x H' y => ?_⟩
    obtain ⟨e3, y⟩ := y
    subst e3
    have := y vs (SqL.of hv)
    rw [h1] at this
    cases this
    exact ⟨Tr.refl _ _, s, h2⟩
end
end Wf
/-! enumerate(text) in a loop's head. -/
namespace Wf
open PySem PySem.Spec PyProof.Rows L2
def Ites (x : Str) : It :=
  ⟨fun i _ => i < x.cps.size, fun i H v H' => ∃ T c, v = .ref T ∧ H T = none ∧ H' = upd H T (.tup [.int (i : Nat), .str ⟨#[c]⟩]) ∧ x.cps[i]? = some c, fun i _ => x.cps.size ≤ i⟩
theorem draws_str {prog : Program} {w : World} {A : Around} (hh : A.handled = none) (it : Addr) (x : Str) (t : Tok) (ty : String) (hty : ty = "str_ascii_iterator" ∨ ty = "str_iterator") :
    Draws prog w A it [it] x.cps.size (fun i v => ∃ c u, x.cps[i]? = some c ∧ v = .str ⟨#[c]⟩ u) (fun i h => h.IsStrIter it ty x t i) := by
  rcases hty with e | e
  · rw [e]; exact Draws.strAscii hh it x t
  · rw [e]; exact Draws.strWide hh it x t
theorem turn_enumS {P : Program} {w : World} {K : PySem.W.Frag} {elts : List Expr} {kk : Nat} {tpos : Pos} (e it : Addr) (x : Str) (t : Tok) (ty : String) (hty : ty = "str_ascii_iterator" ∨ ty = "str_iterator") :
    Turn P w K (.Tuple elts kk tpos) (Ites x) [e, it] e (fun i h => i ≤ x.cps.size ∧ (∃ old, IsEnum h e it ((i : Nat) : Int) old) ∧ h.IsStrIter it ty x t i ∧ e ≠ it) where
  mem := by simp
  obj := fun i h st b hb => by
    obtain ⟨_, ⟨old, he⟩, ⟨o, ho, hc, hd⟩, _⟩ := st
    have e' : b = e ∨ b = it := by simpa using hb
    rcases e' with z | z
    · rw [z]; exact ⟨_, he, fun v q => nomatch q⟩
    · rw [z]; exact ⟨o, ho, fun v q => by rw [hd] at q; cases q⟩
  keep := fun i h h' st k => let ⟨hi, ⟨old, he⟩, ⟨o, ho, r⟩, hne⟩ := st; ⟨hi, ⟨old, k e (by simp) _ he⟩, ⟨o, k it (by simp) o ho, r⟩, hne⟩
  item := by
    intro X hP hw hK hc i pins s σ H E I hf st hg
    subst hP hw hK
    obtain ⟨hle, ⟨old, he⟩, hit, hne⟩ := st
    have hel : e < s.heap.objs.size := Heap.lt_size he
    have hil : it < s.heap.objs.size := by obtain ⟨_, q, _⟩ := hit; exact Heap.lt_size q
    refine wpAny_pyNext_enum_itemD (draws_str (A := X.A.in1) (I.ok.hd hc) it x t ty hty) he hit hg hne (by simpa using hne) fun u h' tk hP ho hit' hT hsz hk => ?_
    obtain ⟨c, tu, hcx, rfl⟩ := hP
    refine ⟨_, rfl, wpAny_letOwnedTupleGo_enum (s := { s with heap := h', toks := tk + 1 }) ho fun h'' he' sb => ?_⟩
    have hT2 : h''.get? s.heap.objs.size = some { cls := .type "tuple", data := .seq #[.int i tk, .str ⟨#[c]⟩ tu] } := (sb.2 _ (Nat.ne_of_gt hel)).trans hT
    have new : ObjOk X.prog X.w (upd H s.heap.objs.size (.tup [.int (i : Nat), .str ⟨#[c]⟩])) h'' s.heap.objs.size (.tup [.int (i : Nat), .str ⟨#[c]⟩]) :=
      ⟨by show 2 ≤ sizeLine; decide, [.int i tk, .str ⟨#[c]⟩ tu], .cons ⟨_, rfl⟩ (.cons ⟨_, rfl⟩ .nil), ⟨_, hT2, rfl, _, rfl⟩⟩
    have I1 : Inv X pins σ (upd H s.heap.objs.size (.tup [.int (i : Nat), .str ⟨#[c]⟩])) { s with heap := h'', toks := tk + 1 } :=
      I.turnedNew (ch := [e, it]) (fun b ob hb q => (sb.2 b (fun z => hb (by simp [z]))).trans (hk b ob (fun z => hb (by simp [z])) (fun z => hb (by simp [z])) q)) hf (Nat.le_refl _) new
    refine ⟨.ref s.heap.objs.size, _, I1, rfl, ⟨_, c, rfl, I.hok.fresh (Nat.le_refl _), rfl, hcx⟩, ⟨hg, ⟨.str ⟨#[c]⟩ tu, ?_⟩, ?_, hne⟩, fun b hb => ?_⟩
    · have e1 : ((i + 1 : Nat) : Int) = (i : Int) + 1 := by omega
      rw [e1]; exact he'
    · obtain ⟨o, q, r⟩ := hit'
      exact ⟨o, (sb.2 it (Ne.symm hne)).trans q, r⟩
    · have hb' : b < s.heap.objs.size := by
        have e' : b = e ∨ b = it := by simpa using hb
        rcases e' with z | z
        · rw [z]; exact hel
        · rw [z]; exact hil
      rw [upd_ne (Nat.ne_of_lt hb')]
      exact (hf b hb).1
  done := by
    intro X hP hw hK hc i pins s σ H E I hf st hg
    subst hP hw hK
    obtain ⟨hle, ⟨old, he⟩, hit, hne⟩ := st
    obtain ⟨f0, f1, f2, f3, f4, f5⟩ := hf it (by simp)
    have hi : i = x.cps.size := Nat.le_antisymm hle hg
    rw [hi] at hit
    exact wpAny_pyNext_enum_endD (draws_str (A := X.A.in1) (I.ok.hd hc) it x t ty hty) he hit fun h' eb => ⟨rfl, I.turned (t' := s.toks) (fun b o hb q => eb b o hb q) f0 f1 f3 f4 f5⟩
  self := fun A i s Q E st h => let ⟨_, ⟨_, he⟩, _⟩ := st; wpAny_pyIter_enum he h
def iEnumS (ta : TA) : TI := fun σ H R => ta σ H fun vs H1 => ∃ x, vs = [.str x] ∧ R (Ites x) H1
theorem pi_enumS {X : Cx} {e : Expr} {ta : TA} {p pos tpos : Pos} {elts : List Expr} {kk : Nat} (hg : Gl X "enumerate") (hm : X.mg "enumerate" = none) (ha : PA X [e] ta) (hs : starEach [e] X.env = [(false, eval e X.env)]) :
    PI X (.Tuple elts kk tpos) (.Call (.Name "enumerate" p) [e] [] pos) (iEnumS ta) := by
  refine ⟨fun pins s σ H R I h => ?_⟩
  refine Call_ (ld_blt I hg hm boot_enumerate (PyProof.Rows.callWith_type1 (thn (ha.run pos pins s σ H _ I h) fun us s1 ⟨vs, H1, I1, r1, q1⟩ => ?_) hs rfl))
  obtain ⟨x, ex, q⟩ := q1
  subst ex
  cases r1 with
  | cons r rr =>
    cases rr
    obtain ⟨t, rfl⟩ := r
    refine call_enumerate_str fun h' he hit hsz hk => wpAny_pyIter_enum he ?_
    have I2 : Inv X pins σ H1 { s1 with heap := h' } := I1.kept (t' := s1.toks) hk
    have hty : strIterType x = "str_ascii_iterator" ∨ strIterType x = "str_iterator" := by
      unfold strIterType
      split
      · exact .inl rfl
      · exact .inr rfl
    refine ⟨s1.heap.objs.size + 1, [s1.heap.objs.size + 1, s1.heap.objs.size], _, _, H1, rfl, I2, turn_enumS (s1.heap.objs.size + 1) s1.heap.objs.size x t (strIterType x) hty, ⟨Nat.zero_le _, ⟨.none, he⟩, hit, Nat.succ_ne_self _⟩, fun b hb => ?_, q⟩
    have e' : b = s1.heap.objs.size + 1 ∨ b = s1.heap.objs.size := by simpa using hb
    have hle : s1.heap.objs.size ≤ b := by
      rcases e' with z | z
      · rw [z]; exact Nat.le_add_right _ _
      · rw [z]; exact Nat.le_refl _
    exact I1.fpOk hle (I1.hok.fresh hle)
theorem src_enum {K : PySem.W.Frag} {f0 : Fm} {H0 : Hp} {t : Txt} : SrcOk K f0 H0 (.vals (t.mapIdx fun i c => .tup [.int i, .str [c]])) (Ites ⟨t.toArray⟩) where
  stop := fun f H st i _ s e => by
    have e2 : (t.mapIdx fun i c => PV.tup [.int i, .str [c]])[i]? = none := Option.some.inj e
    have := List.getElem?_eq_none_iff.mp e2
    show (t.toArray).size ≤ i
    simpa using this
  go := fun f H st i v _ s e => by
    have e2 : (t.mapIdx fun i c => PV.tup [.int i, .str [c]])[i]? = some v := Option.some.inj e
    rw [List.getElem?_mapIdx] at e2
    cases q : t[i]? with
    | none => rw [q] at e2; cases e2
    | some c =>
      rw [q] at e2
      cases e2
      have hl := (List.getElem?_eq_some_iff.mp q).1
      refine ⟨by show i < (t.toArray).size; simpa using hl, fun x H' y => ?_⟩
      obtain ⟨T, c', e3, hT, eH, hc⟩ := y
      subst e3 eH
      have hc2 : t[i]? = some c' := by simpa using hc
      rw [q] at hc2
      cases hc2
      exact ⟨Tr.new hT, s.new hT, Rep.newTup s hT (.cons (.int _) (.cons (.str [c]) .nil))⟩
end Wf
namespace Wf
open PySem PySem.Spec PyProof.Rows L2
section
variable (K : PySem.W.Frag) (cv : Nat → Value) (C : Orc) (W : WX')
def tI (c : CI) : TI := fun σ H R => ∃ f ps st, SlOk K f H ps σ ∧ StOk K f H st ∧ Post K cv f H (fun cls H' => W cls none σ H') (evi C ps c st) fun s _ f' H' => ∀ J, SrcOk K f' H' s J → R J H'
end
theorem PI.of' {X : Cx} {tg e : Expr} {t t' : TI} (h : PI X tg e t) (i : ∀ σ H R, t' σ H R → t σ H R) : PI X tg e t' := ⟨fun pins s σ H R I q => h.run pins s σ H R I (i σ H R q)⟩
theorem pi_seqP {X : Cx} {cv : Nat → Value} {C : Orc} {W : WX'} {tg e : Expr} {c : CE} (he : PE X e (tE X.K cv C W c)) : PI X tg e (tI X.K cv C W (.seq c)) := by
  refine ⟨fun pins s σ H R I h => ?_⟩
  obtain ⟨f, ps, st, sl, so, p⟩ := h
  simp only [evi] at p
  cases hv : ev C ps c st with
  | no => rw [hv] at p; exact p.elim
  | exc k st1 =>
    rw [hv] at p
    exact (pi_list he).run pins s σ H R I ⟨f, ps, st, sl, so, by rw [hv]; exact p⟩
  | ok v st1 =>
    rw [hv] at p
    simp only [Wf.R.bind_ok] at p
    obtain ⟨sr, es, ks⟩ := p.of
    cases v with
    | tup xs =>
      have e1 : Src.vals xs = sr := Option.some.inj es
      subst e1
      refine (pi_tup he).run pins s σ H R I ⟨f, ps, st, sl, so, ?_⟩
      rw [hv]
      intro f' H' t' s' w rw
      cases rw with
      | tup h1 n rs => exact ⟨_, rfl, ⟨_, .inl h1⟩, ks f' H' t' s' _ (src_tup (.inl ⟨h1, n⟩) rs)⟩
      | tupK h1 rs => exact ⟨_, rfl, ⟨_, .inr h1⟩, ks f' H' t' s' _ (src_tup (.inr h1) rs)⟩
    | lst xs =>
      have e1 : Src.vals xs = sr := Option.some.inj es
      subst e1
      refine (pi_list he).run pins s σ H R I ⟨f, ps, st, sl, so, ?_⟩
      rw [hv]
      intro f' H' t' s' w rw
      cases rw with
      | lst h1 n rs => exact ⟨_, rfl, ⟨_, .inl h1⟩, ks f' H' t' s' _ (src_lst h1 n rs)⟩
    | str x =>
      have es2 : (if x.length ≤ SL then some (Src.vals (x.map fun c => .str [c])) else none) = some sr := es
      split at es2
      · cases es2
        refine (pi_str he).run pins s σ H R I ⟨f, ps, st, sl, so, ?_⟩
        rw [hv]
        intro f' H' t' s' w rw
        cases rw
        exact ⟨_, rfl, ks f' H' t' s' _ src_str⟩
      · cases es2
    | loc n =>
      have es2 : (match st1[n]? with | some (.lst _) => some (Src.locl n) | _ => none) = some sr := es
      cases e3 : st1[n]? with
      | none => rw [e3] at es2; cases es2
      | some ob =>
        rw [e3] at es2
        cases ob with
        | lst xs =>
          cases es2
          refine (pi_list he).run pins s σ H R I ⟨f, ps, st, sl, so, ?_⟩
          rw [hv]
          intro f' H' t' s' w rw
          cases rw with
          | loc hn =>
            obtain ⟨vs, hv', rs⟩ := s'.obj n _ _ hn e3
            exact ⟨_, rfl, ⟨vs, SqL.of hv'⟩, ks f' H' t' s' _ (src_loc hn)⟩
        | _ => cases es2
    | _ => cases es
section
variable {X : Cx} {cv : Nat → Value} {C : Orc} {W : WX'}
theorem pi_rngP {tg a : Expr} {c : CE} {p pos : Pos} (hg : Gl X "range") (hm : X.mg "range" = none) (ha : PE X a (tE X.K cv C W c)) (hs : starEach [a] X.env = [(false, eval a X.env)]) : PI X tg (.Call (.Name "range" p) [a] [] pos) (tI X.K cv C W (.rng c)) := by
  refine PI.of' (pi_range1 hg hm (pa_cons ha pa_nil hs) hs) fun σ H R h => ?_
  obtain ⟨f, ps, st, sl, so, q⟩ := h
  simp only [evi] at q
  refine ⟨f, ps, st, sl, so, q.bind.imp fun x st1 f1 H1 t1 s1 p1 xv rx => ?_⟩
  split at p1
  · split at p1
    · rename_i hb
      cases rx
      exact ⟨_, rfl, hb.1, hb.2, p1 f1 H1 (Tr.refl _ _) s1 _ src_rng⟩
    · exact p1.elim
  · exact p1.elim
theorem pi_enumP {a : Expr} {c : CE} {p pos tpos : Pos} {elts : List Expr} {kk : Nat} (hg : Gl X "enumerate") (hm : X.mg "enumerate" = none) (ha : PE X a (tE X.K cv C W c)) (hs : starEach [a] X.env = [(false, eval a X.env)]) :
    PI X (.Tuple elts kk tpos) (.Call (.Name "enumerate" p) [a] [] pos) (tI X.K cv C W (.enum c)) := by
  refine PI.of' (pi_enumS hg hm (pa_cons ha pa_nil hs) hs) fun σ H R h => ?_
  obtain ⟨f, ps, st, sl, so, q⟩ := h
  simp only [evi] at q
  refine ⟨f, ps, st, sl, so, q.bind.imp fun x st1 f1 H1 t1 s1 p1 xv rx => ?_⟩
  split at p1
  · split at p1
    · cases rx
      exact ⟨_, rfl, p1 f1 H1 (Tr.refl _ _) s1 _ src_enum⟩
    · exact p1.elim
  · exact p1.elim
end
/-! ### targets -/
def gNames (is : List Nat) : TGs := match is with
  | [] => gNil
  | i :: r => gCons (gName i) (gNames r)
def gTg (K : PySem.W.Frag) : Tg → TG
  | .one i => gName i
  | .many is => gTup K is.length (gNames is)
theorem SlOk.setMany {K : PySem.W.Frag} {f : Fm} {H : Hp} : ∀ {is : List Nat} {xs : List PV} {vs : List V} {ps : Slots} {σ : L2.St} {Q : L2.St → Hp → Prop}, SlOk K f H ps σ → Reps K f H xs vs → xs.length = is.length →
    (∀ σ', SlOk K f H ((is.zip xs).foldl (fun q p => q.set p.1 (some p.2)) ps) σ' → (∀ ws : List Nat, (∀ i ∈ is, i ∈ ws) → L2.wipe σ' ws = L2.wipe σ ws) → Q σ' H) → gNames is vs σ H Q
  | [], [], _, ps, σ, Q, sl, .nil, _, k => ⟨rfl, k σ sl fun _ _ => rfl⟩
  | [], _ :: _, _, _, _, _, _, _, h, _ => by cases h
  | _ :: _, [], _, _, _, _, _, _, h, _ => by cases h
  | i :: is, x :: xs, _, ps, σ, Q, sl, .cons a b, h, k => by
    refine ⟨_, _, rfl, ?_⟩
    refine SlOk.setMany (sl.set a) b (by simpa using h) fun σ' sl' hw => k σ' sl' fun ws hws => ?_
    rw [hw ws fun j hj => hws j (List.mem_cons_of_mem _ hj)]
    have hi : i ∈ ws := hws i List.mem_cons_self
    clear hw hws sl' k
    induction ws with
    | nil => cases hi
    | cons w ws ih =>
      unfold L2.wipe
      by_cases hin : i ∈ ws
      · rw [ih hin]
      · rcases List.mem_cons.mp hi with e | e
        · subst e
          have key : ∀ (us : List Nat) (σ : L2.St) (v : Option V), (L2.wipe (σ.set i v) us).set i none = (L2.wipe σ us).set i none := by
            intro us
            induction us with
            | nil => intro σ v; unfold L2.wipe; simp
            | cons u us ih2 =>
              intro σ v
              unfold L2.wipe
              by_cases hu : u = i
              · subst hu
                simp only [List.set_set]
                exact ih2 σ v
              · rw [List.set_comm _ _ hu, ih2, List.set_comm _ _ (Ne.symm hu)]
          exact key ws σ _
        · exact absurd e hin
def tgIn : Tg → List Nat → Prop
  | .one i, vs => i ∈ vs
  | .many is, vs => ∀ i ∈ is, i ∈ vs
theorem asg_ok {K : PySem.W.Frag} {f : Fm} {H : Hp} {tg : Tg} {x : PV} {v : V} {ps qs : Slots} {σ : L2.St} {Q : L2.St → Hp → Prop} (sl : SlOk K f H ps σ) (r : Rep K f H x v) (h : asg tg x ps = some qs)
    (k : ∀ σ', SlOk K f H qs σ' → (∀ ws : List Nat, tgIn tg ws → L2.wipe σ' ws = L2.wipe σ ws) → Q σ' H) : gTg K tg v σ H Q := by
  cases tg with
  | one i =>
    have e : ps.set i (some x) = qs := Option.some.inj h
    subst e
    have g : gNames [i] [v] σ H Q := SlOk.setMany (is := [i]) (xs := [x]) sl (.cons r .nil) rfl fun σ' s' hw => k σ' s' fun ws hi => hw ws (by intro j hj; rw [List.mem_singleton.mp hj]; exact hi)
    obtain ⟨v', r', e1, g⟩ := g
    cases e1
    exact g.2
  | many is =>
    cases x with
    | tup xs =>
      have h2 : (if xs.length = is.length then some ((is.zip xs).foldl (fun q p => q.set p.1 (some p.2)) ps) else none) = some qs := h
      split at h2
      · rename_i hl
        cases h2
        obtain ⟨a, vs, e1, hs, _, rs⟩ := r.tup_inv
        subst e1
        exact ⟨a, vs, rfl, hs, by rw [← rs.length]; exact hl, SlOk.setMany sl rs hl k⟩
      · cases h2
    | _ => cases h
theorem wipe_wipe : ∀ (us : List Nat) (τ : L2.St), L2.wipe (L2.wipe τ us) us = L2.wipe τ us := by
  intro us
  induction us with
  | nil => intro τ; rfl
  | cons u us ih =>
    intro τ
    have e3 : ∀ (ws : List Nat) (τ : L2.St), L2.wipe (τ.set u none) ws = (L2.wipe τ ws).set u none := by
      intro ws
      induction ws with
      | nil => intro τ; rfl
      | cons w ws ih2 =>
        intro τ
        unfold L2.wipe
        rw [ih2]
        by_cases hwu : w = u
        · subst hwu; simp
        · rw [List.set_comm _ _ (Ne.symm hwu)]
    show (L2.wipe ((L2.wipe τ us).set u none) us).set u none = (L2.wipe τ us).set u none
    rw [e3, ih]
    simp
/-! ### comprehensions -/
def ttOf (K : PySem.W.Frag) (cv : Nat → Value) (C : Orc) (W : WX') : CEo → TT
  | .none => tYes
  | .some c => tT K cv C W c
theorem tE_comp {K : PySem.W.Frag} {cv : Nat → Value} {C : Orc} {W : WX'} {elt : CE} {tg : Tg} {src : CI} {cond : CEo} {vs : List Nat} {tt : TT} {σ : L2.St} {H : Hp} {Q : VK}
    (htg : tgIn tg vs)
    (htt : tt = ttOf K cv C (fun _ _ _ _ => False) cond)
    (h : tE K cv C W (.comp elt tg src cond vs) σ H Q) : tLc (tI K cv C W src) (gTg K tg) tt (tE K cv C (fun _ _ _ _ => False) elt) vs σ H Q := by
  obtain ⟨f, ps, st, sl, so, p⟩ := h
  rw [ev_comp] at p
  refine ⟨f, ps, st, sl, so, p.bind.imp fun s st1 f1 H1 t1 s1 p1 J sj D hD => ?_⟩
  have sl1 := sl.tr t1 s1
  generalize hturn : compTurn tg (wipeP ps vs) (fun qs st2 => ev C qs elt st2) (evc C cond) = turn at p1
  refine ⟨fun i m H => ∃ (f : Fm) (st : Store) (acc : List PV) (av : List V), f.z = D :: f1.z ∧ Le f1 H1 f H ∧ StOk K f H st ∧ H D = some (.lst av) ∧ Reps K f H acc av ∧
    Post K cv f1 H1 (fun cls H' => W cls none σ H') (compL s turn m i acc st) (fun x _ f' H' => ∀ v, Rep K f' H' x v → Q v H'), ⟨_, f1.priv D, st1, [], [], rfl, Le.priv hD, s1.priv hD, upd_same, .nil, p1⟩, ?_⟩
  rintro i m H ⟨f2, st2, acc, av, hz, le, s2, hDv, ra, pp⟩
  cases m with
  | zero => exact pp.elim
  | succ k =>
    have hDz : D ∈ f2.z := by rw [hz]; exact List.mem_cons_self
    have hDb : D ∉ f2.l := (s2.zl D hDz).2
    unfold compL at pp
    cases hn : s.next i st2 with
    | none => rw [hn] at pp; exact pp.elim
    | some o =>
      rw [hn] at pp
      cases o with
      | none =>
        refine .inl ⟨sj.stop f2 H st2 i le.lf s2 hn, ?_⟩
        -- the list is laid open
        obtain ⟨f3, hf3⟩ : ∃ f3 : Fm, f3 = ⟨f2.l, f1.z⟩ := ⟨_, rfl⟩
        have hl3 : f3.l = f2.l := by rw [hf3]
        have hz3 : f3.z = f1.z := by rw [hf3]
        have hzs : ∀ a ∈ f3.z, a ∈ f2.z := fun a ha => by rw [hz]; rw [hz3] at ha; exact List.mem_cons_of_mem _ ha
        have tr3 : Tr f1 H1 f3 H := ⟨by rw [hl3]; exact le.ext, hz3, le.keep, le.live⟩
        refine pp f3 H tr3 (s2.open_ hl3 hzs) _ (.lst (.inl hDv) (Fm.notBar (by rw [hl3]; exact hDb) ?_) (ra.open_ hl3 hzs))
        intro z
        rw [hz3] at z
        exact (s1.zl D z).1 hD
      | some v =>
        obtain ⟨hgo, hy⟩ := sj.go f2 H st2 i v le.lf s2 hn
        refine .inr ⟨hgo, _, fun H' nx => ⟨k, Nat.lt_succ_self k, nx⟩, fun x H' yl => ?_⟩
        obtain ⟨t3, s3, rx⟩ := hy x H' yl
        have hD3 : H' D = some (.lst av) := t3.keep D _ hDv hDb
        have le3 : Le f1 H1 f2 H' := le.trans t3.le
        have pp' : Post K cv f1 H1 (fun cls H' => W cls none σ H') ((turn v st2).bind fun o st1 => match o with
            | none => compL s turn k (i + 1) acc st1
            | some y => if acc.length < SL then compL s turn k (i + 1) (acc ++ [y]) st1 else .no) (fun x _ f' H' => ∀ v, Rep K f' H' x v → Q v H') := pp
        have et := congrFun (congrFun hturn v) st2
        unfold compTurn at et
        cases ha : asg tg v (wipeP ps vs) with
        | none => rw [ha] at et; rw [← et] at pp'; exact pp'.elim
        | some qs =>
          rw [ha] at et
          dsimp only at et
          rw [← et] at pp'
          have slw : SlOk K f2 H' (wipeP ps vs) (L2.wipe σ vs) := (sl1.le le3).wipe vs
          refine asg_ok slw rx ha fun σ2 sl2 hw => ⟨?_, ?_⟩
          · have e1 : L2.wipe σ2 vs = L2.wipe (L2.wipe σ vs) vs := hw vs htg
            have e2 : ∀ (us : List Nat) (τ : L2.St), L2.wipe (L2.wipe τ us) us = L2.wipe τ us := by
              intro us
              induction us with
              | nil => intro τ; rfl
              | cons u us ih =>
                intro τ
                have e3 : ∀ (ws : List Nat) (τ : L2.St), L2.wipe (τ.set u none) ws = (L2.wipe τ ws).set u none := by
                  intro ws
                  induction ws with
                  | nil => intro τ; rfl
                  | cons w ws ih2 =>
                    intro τ
                    unfold L2.wipe
                    rw [ih2]
                    by_cases hwu : w = u
                    · subst hwu; simp
                    · rw [List.set_comm _ _ (Ne.symm hwu)]
                show (L2.wipe ((L2.wipe τ us).set u none) us).set u none = (L2.wipe τ us).set u none
                rw [e3, ih]
                simp
            rw [e1, e2]
          · -- the element, from a state on
            have elem : ∀ (f4 : Fm) (H4 : Hp) (st4 : Store), Tr f2 H' f4 H4 → StOk K f4 H4 st4 → Post K cv f1 H1 (fun cls H' => W cls none σ H') (((ev C qs elt st4).calm.bind fun y st5 => .ok (some y) st5).bind fun o st1 => match o with
                | none => compL s turn k (i + 1) acc st1
                | some y => if acc.length < SL then compL s turn k (i + 1) (acc ++ [y]) st1 else .no) (fun x _ f' H' => ∀ v, Rep K f' H' x v → Q v H') →
                tE K cv C (fun _ _ _ _ => False) elt σ2 H4 fun y H5 => ∃ acc', H5 D = some (.lst acc') ∧ acc'.length < sizeLine ∧ ∃ (f : Fm) (st : Store) (acc : List PV) (av : List V), f.z = D :: f1.z ∧ Le f1 H1 f (upd H5 D (.lst (acc' ++ [y]))) ∧ StOk K f (upd H5 D (.lst (acc' ++ [y]))) st ∧ upd H5 D (.lst (acc' ++ [y])) D = some (.lst av) ∧ Reps K f (upd H5 D (.lst (acc' ++ [y]))) acc av ∧
                  Post K cv f1 H1 (fun cls H' => W cls none σ H') (compL s turn k (i + 1) acc st) (fun x _ f' H' => ∀ v, Rep K f' H' x v → Q v H') := by
              intro f4 H4 st4 t4 s4 pe
              refine ⟨f4, qs, st4, sl2.tr t4 s4, s4, ?_⟩
              cases hel : ev C qs elt st4 with
              | no => rw [hel] at pe; exact pe.elim
              | exc c st5 => rw [hel] at pe; exact pe.elim
              | ok y st5 =>
                rw [hel] at pe
                have pe2 : Post K cv f1 H1 (fun cls H' => W cls none σ H') (if acc.length < SL then compL s turn k (i + 1) (acc ++ [y]) st5 else .no) (fun x _ f' H' => ∀ v, Rep K f' H' x v → Q v H') := pe
                intro f5 H5 t5 s5 yv ry
                split at pe2
                · rename_i hl
                  have t45 := t4.trans t5
                  have hD5 : H5 D = some (.lst av) := t45.keep D _ hD3 hDb
                  have hz5 : f5.z = D :: f1.z := by rw [t45.zz]; exact hz
                  have hDz5 : D ∈ f5.z := by rw [hz5]; exact List.mem_cons_self
                  have ra5 : Reps K f5 H5 acc av := (ra.tr t3).tr t45
                  refine ⟨av, hD5, by rw [← ra5.length, ← SL_eq]; exact hl, f5, st5, acc ++ [y], av ++ [yv], hz5, ?_, s5.updZ hDz5, upd_same, (ra5.append (.cons ry .nil)).updZ hDz5, pe2⟩
                  exact (le3.trans t45.le).updZ hD
                · exact pe2.elim
            cases cond with
            | none =>
              have e1 : tt = tYes := htt
              rw [e1]
              unfold tYes
              dsimp only
              rw [if_pos rfl]
              exact elem f2 H' st2 (Tr.refl _ _) s3 pp'
            | some c =>
              have e1 : tt = tT K cv C (fun _ _ _ _ => False) c := htt
              rw [e1]
              refine ⟨f2, qs, st2, sl2, s3, ?_⟩
              have pc : Post K cv f1 H1 (fun cls H' => W cls none σ H') (((ev C qs c st2).calm.bind fun b st3 => match b with
                | .bl true => (ev C qs elt st3).calm.bind fun y st4 => .ok (some y) st4
                | .bl false => .ok none st3
                | _ => .no).bind fun o st1 => match o with
                | none => compL s turn k (i + 1) acc st1
                | some y => if acc.length < SL then compL s turn k (i + 1) (acc ++ [y]) st1 else .no) (fun x _ f' H' => ∀ v, Rep K f' H' x v → Q v H') := pp'
              cases hcv : ev C qs c st2 with
              | no => rw [hcv] at pc; exact pc.elim
              | exc q st5 => rw [hcv] at pc; exact pc.elim
              | ok b st5 =>
                rw [hcv] at pc
                intro f4 H4 t4 s4
                cases b with
                | bl bb =>
                  cases bb with
                  | true =>
                    exact ⟨true, rfl, iteT (elem f4 H4 st5 t4 s4 pc)⟩
                  | false =>
                    refine ⟨false, rfl, iteF ?_⟩
                    have pf : Post K cv f1 H1 (fun cls H' => W cls none σ H') (compL s turn k (i + 1) acc st5) (fun x _ f' H' => ∀ v, Rep K f' H' x v → Q v H') := pc
                    refine ⟨f4, st5, acc, av, by rw [t4.zz]; exact hz, le3.trans t4.le, s4, t4.keep D _ hD3 hDb, (ra.tr t3).tr t4, pf⟩
                | _ => exact pc.elim
/-! ### two fors -/
theorem tE_comp2 {K : PySem.W.Frag} {cv : Nat → Value} {C : Orc} {W : WX'} {elt : CE} {i0 j0 : Nat} {src src2 : CI} {vs : List Nat} {σ : L2.St} {H : Hp} {Q : VK} (hi0 : i0 ∈ vs)
    (h : tE K cv C W (.comp2 elt i0 src j0 src2 vs) σ H Q) : tLc2 (tI K cv C W src) (gTg K (.one i0)) tYes (tI K cv C (fun _ _ _ _ => False) src2) (gTg K (.one j0)) tYes (tE K cv C (fun _ _ _ _ => False) elt) vs [j0] σ H Q := by
  obtain ⟨f, ps, st, sl, so, p⟩ := h
  simp only [ev] at p
  refine ⟨f, ps, st, sl, so, p.bind.imp fun s st1 f1 H1 t1 s1 p1 J sj D hD => ?_⟩
  have sl1 := sl.tr t1 s1
  generalize hturn : (fun (v : PV) (acc : List PV) (st2 : Store) => (evi C ((wipeP ps vs).set i0 (some v)) src2 st2).calm.bind fun s2 st3 =>
        compL2 s2 (fun u st4 => (ev C (((wipeP ps vs).set i0 (some v)).set j0 (some u)) elt st4).calm) (s2.len st3 + 1) 0 acc st3) = turn at p1
  refine ⟨fun i m H => ∃ (f : Fm) (st : Store) (acc : List PV) (av : List V), f.z = D :: f1.z ∧ Le f1 H1 f H ∧ StOk K f H st ∧ H D = some (.lst av) ∧ Reps K f H acc av ∧
    Post K cv f1 H1 (fun cls H' => W cls none σ H') (compL1 s turn m i acc st) (fun x _ f' H' => ∀ v, Rep K f' H' x v → Q v H'), ⟨_, f1.priv D, st1, [], [], rfl, Le.priv hD, s1.priv hD, upd_same, .nil, p1⟩, ?_⟩
  rintro i m H ⟨f2, st2, acc, av, hz, le, s2, hDv, ra, pp⟩
  cases m with
  | zero => exact pp.elim
  | succ k =>
    have hDz : D ∈ f2.z := by rw [hz]; exact List.mem_cons_self
    have hDb : D ∉ f2.l := (s2.zl D hDz).2
    unfold compL1 at pp
    cases hn : s.next i st2 with
    | none => rw [hn] at pp; exact pp.elim
    | some o =>
      rw [hn] at pp
      cases o with
      | none =>
        refine .inl ⟨sj.stop f2 H st2 i le.lf s2 hn, ?_⟩
        obtain ⟨f3, hf3⟩ : ∃ f3 : Fm, f3 = ⟨f2.l, f1.z⟩ := ⟨_, rfl⟩
        have hl3 : f3.l = f2.l := by rw [hf3]
        have hz3 : f3.z = f1.z := by rw [hf3]
        have hzs : ∀ a ∈ f3.z, a ∈ f2.z := fun a ha => by rw [hz]; rw [hz3] at ha; exact List.mem_cons_of_mem _ ha
        have tr3 : Tr f1 H1 f3 H := ⟨by rw [hl3]; exact le.ext, hz3, le.keep, le.live⟩
        refine pp f3 H tr3 (s2.open_ hl3 hzs) _ (.lst (.inl hDv) (Fm.notBar (by rw [hl3]; exact hDb) ?_) (ra.open_ hl3 hzs))
        intro z
        rw [hz3] at z
        exact (s1.zl D z).1 hD
      | some v =>
        obtain ⟨hgo, hy⟩ := sj.go f2 H st2 i v le.lf s2 hn
        refine .inr ⟨hgo, _, fun H' nx => ⟨k, Nat.lt_succ_self k, nx⟩, fun x H' yl => ?_⟩
        obtain ⟨t3, s3, rx⟩ := hy x H' yl
        have hD3 : H' D = some (.lst av) := t3.keep D _ hDv hDb
        have le3 : Le f1 H1 f2 H' := le.trans t3.le
        have pp' : Post K cv f1 H1 (fun cls H' => W cls none σ H') ((turn v acc st2).bind fun acc1 st1 => compL1 s turn k (i + 1) acc1 st1) (fun x _ f' H' => ∀ v, Rep K f' H' x v → Q v H') := pp
        have et := congrFun (congrFun (congrFun hturn v) acc) st2
        rw [← et] at pp'
        have slw : SlOk K f2 H' (wipeP ps vs) (L2.wipe σ vs) := (sl1.le le3).wipe vs
        refine asg_ok (tg := .one i0) slw rx rfl fun σ2 sl2 hw => ⟨?_, ?_⟩
        · have e1 : L2.wipe σ2 vs = L2.wipe (L2.wipe σ vs) vs := hw vs hi0
          rw [e1, wipe_wipe]
        · unfold tYes
          dsimp only
          rw [if_pos rfl]
          refine ⟨f2, (wipeP ps vs).set i0 (some v), st2, sl2, s3, ?_⟩
          cases he2 : evi C ((wipeP ps vs).set i0 (some v)) src2 st2 with
          | no => rw [he2] at pp'; exact pp'.elim
          | exc c s => rw [he2] at pp'; exact pp'.elim
          | ok sr st3 =>
            rw [he2] at pp'
            intro f4 H4 t4 s4 J1 sj1
            have hz4 : f4.z = D :: f1.z := by rw [t4.zz]; exact hz
            have hDz4 : D ∈ f4.z := by rw [hz4]; exact List.mem_cons_self
            have hDb4 : D ∉ f4.l := (s4.zl D hDz4).2
            have hD4 : H4 D = some (.lst av) := t4.keep D _ hD3 hDb
            have sl4 : SlOk K f4 H4 ((wipeP ps vs).set i0 (some v)) σ2 := sl2.tr t4 s4
            generalize hturn2 : (fun (u : PV) (st4 : Store) => (ev C (((wipeP ps vs).set i0 (some v)).set j0 (some u)) elt st4).calm) = turn2 at pp'
            have pp2 : Post K cv f1 H1 (fun cls H' => W cls none σ H') ((compL2 sr turn2 (sr.len st3 + 1) 0 acc st3).bind fun acc1 st1 => compL1 s turn k (i + 1) acc1 st1) (fun x _ f' H' => ∀ v, Rep K f' H' x v → Q v H') := pp'
            refine ⟨fun j m H => ∃ (f : Fm) (st : Store) (acc : List PV) (av : List V), f.z = D :: f1.z ∧ Le f1 H1 f H ∧ Lf f4 H4 f H ∧ StOk K f H st ∧ H D = some (.lst av) ∧ Reps K f H acc av ∧
              Post K cv f1 H1 (fun cls H' => W cls none σ H') ((compL2 sr turn2 m j acc st).bind fun acc1 st1 => compL1 s turn k (i + 1) acc1 st1) (fun x _ f' H' => ∀ v, Rep K f' H' x v → Q v H'),
              ⟨_, f4, st3, acc, av, hz4, le3.trans t4.le, Lf.refl _ _, s4, hD4, (ra.tr t3).tr t4, pp2⟩, ?_⟩
            clear pp2 pp'
            rintro j m H5 ⟨f5, st5, acc5, av5, hz5, le5, lf5, s5, hD5, ra5, p5⟩
            have hDz5 : D ∈ f5.z := by rw [hz5]; exact List.mem_cons_self
            have hDb5 : D ∉ f5.l := (s5.zl D hDz5).2
            cases m with
            | zero => exact p5.elim
            | succ m =>
              unfold compL2 at p5
              cases hn2 : sr.next j st5 with
              | none => rw [hn2] at p5; exact p5.elim
              | some o =>
                rw [hn2] at p5
                cases o with
                | none =>
                  refine .inl ⟨sj1.stop f5 H5 st5 j lf5 s5 hn2, f5, st5, acc5, av5, hz5, le5, s5, hD5, ra5, ?_⟩
                  exact p5
                | some u =>
                  obtain ⟨hgo5, hy5⟩ := sj1.go f5 H5 st5 j u lf5 s5 hn2
                  refine .inr ⟨hgo5, _, fun H' nx => ⟨m, Nat.lt_succ_self m, nx⟩, fun x6 H6 yl6 => ?_⟩
                  obtain ⟨t6, s6, rx6⟩ := hy5 x6 H6 yl6
                  have hD6 : H6 D = some (.lst av5) := t6.keep D _ hD5 hDb5
                  have slw6 : SlOk K f5 H6 (wipeP ((wipeP ps vs).set i0 (some v)) [j0]) (L2.wipe σ2 [j0]) := ((sl4.lf lf5).tr t6 s6).wipe [j0]
                  refine asg_ok (tg := .one j0) slw6 rx6 rfl fun σ3 sl3 hw3 => ⟨?_, ?_⟩
                  · have e1 : L2.wipe σ3 [j0] = L2.wipe (L2.wipe σ2 [j0]) [j0] := hw3 [j0] (List.mem_singleton.mpr rfl)
                    rw [e1, wipe_wipe]
                  · show (if true = true then _ else _)
                    rw [if_pos rfl]
                    have es : (wipeP ((wipeP ps vs).set i0 (some v)) [j0]).set j0 (some u) = ((wipeP ps vs).set i0 (some v)).set j0 (some u) := by
                      simp only [wipeP, List.set_set]
                    rw [es] at sl3
                    refine ⟨f5, ((wipeP ps vs).set i0 (some v)).set j0 (some u), st5, sl3, s6, ?_⟩
                    have et2 := congrFun (congrFun hturn2 u) st5
                    have p6 : Post K cv f1 H1 (fun cls H' => W cls none σ H') (((turn2 u st5).bind fun y st1 => if acc5.length < SL then compL2 sr turn2 m (j + 1) (acc5 ++ [y]) st1 else .no).bind fun acc1 st1 => compL1 s turn k (i + 1) acc1 st1) (fun x _ f' H' => ∀ v, Rep K f' H' x v → Q v H') := p5
                    rw [← et2] at p6
                    cases hel : ev C (((wipeP ps vs).set i0 (some v)).set j0 (some u)) elt st5 with
                    | no => rw [hel] at p6; exact p6.elim
                    | exc c s => rw [hel] at p6; exact p6.elim
                    | ok y st7 =>
                      rw [hel] at p6
                      have p7 : Post K cv f1 H1 (fun cls H' => W cls none σ H') ((if acc5.length < SL then compL2 sr turn2 m (j + 1) (acc5 ++ [y]) st7 else .no).bind fun acc1 st1 => compL1 s turn k (i + 1) acc1 st1) (fun x _ f' H' => ∀ v, Rep K f' H' x v → Q v H') := p6
                      intro f8 H8 t8 s8 yv ry
                      split at p7
                      · rename_i hl
                        have t68 := t6.trans t8
                        have hD8 : H8 D = some (.lst av5) := t68.keep D _ hD5 hDb5
                        have hz8 : f8.z = D :: f1.z := by rw [t68.zz]; exact hz5
                        have hDz8 : D ∈ f8.z := by rw [hz8]; exact List.mem_cons_self
                        have ra8 : Reps K f8 H8 acc5 av5 := ra5.tr t68
                        exact ⟨av5, hD8, by rw [← ra8.length, ← SL_eq]; exact hl, f8, st7, acc5 ++ [y], av5 ++ [yv], hz8, (le5.trans t68.le).updZ hD, (lf5.trans t68.lf).updZ hDz4 (by rw [hD8]; simp), s8.updZ hDz8, upd_same, (ra8.append (.cons ry .nil)).updZ hDz8, p7⟩
                      · exact p7.elim
end Wf
namespace Wf
open PySem PySem.Spec PyProof.Rows L2
/-- a def's wish about exceptions does not look at the slots -/
abbrev noσ (E : XK) : WX' := fun cls d _ H => E cls d H
def FlP (K : PySem.W.Frag) (D : Ends) (fl : Fl) (f : Fm) (H : Hp) : Prop := match fl with
  | .next qs => ∀ σ', SlOk K f H qs σ' → D.nx σ' H
  | .ret v => ∀ w, Rep K f H v w → D.rt w H
section
variable (K : PySem.W.Frag) (cv : Nat → Value) (C : Orc) (E : XK) (N : Nat)
def tS (c : CS) : TS := fun D σ H => ∃ f ps st, SlOk K f H ps σ ∧ StOk K f H st ∧ Post K cv f H (fun cls H' => E cls none H') (ex C N c ps st) fun fl _ f' H' => FlP K D fl f' H'
end
section
variable {K : PySem.W.Frag} {cv : Nat → Value} {C : Orc} {E : XK} {N : Nat} {D : Ends} {σ : L2.St} {H : Hp}
theorem FlP.tr {fl : Fl} {f f' : Fm} {H' : Hp} : True := trivial
theorem tS_skip (h : tS K cv C E N .skip D σ H) : tNext D σ H := by
  obtain ⟨f, ps, st, sl, so, p⟩ := h
  simp only [ex] at p
  exact p f H (Tr.refl _ _) so σ sl
theorem tS_seq {a b : CS} (h : tS K cv C E N (.seq a b) D σ H) : tSeq (tS K cv C E N a) (tS K cv C E N b) D σ H := by
  obtain ⟨f, ps, st, sl, so, p⟩ := h
  simp only [ex] at p
  refine ⟨f, ps, st, sl, so, p.bind.imp fun fl st1 f1 H1 t1 s1 p1 => ?_⟩
  cases fl with
  | next qs => exact fun σ' sl' => ⟨f1, qs, st1, sl', s1, p1⟩
  | ret v => exact fun w rw => p1 f1 H1 (Tr.refl _ _) s1 w rw
theorem tS_expr {e : CE} (h : tS K cv C E N (.expr e) D σ H) : tDrop (tE K cv C (noσ E) e) D σ H := by
  obtain ⟨f, ps, st, sl, so, p⟩ := h
  simp only [ex] at p
  refine ⟨f, ps, st, sl, so, p.bind.imp fun x st1 f1 H1 t1 s1 p1 v rv => ?_⟩
  exact p1 f1 H1 (Tr.refl _ _) s1 σ (sl.tr t1 s1)
theorem tS_set {i : Nat} {e : CE} (h : tS K cv C E N (.set i e) D σ H) : tAsg (tE K cv C (noσ E) e) (gName i) D σ H := by
  obtain ⟨f, ps, st, sl, so, p⟩ := h
  simp only [ex] at p
  refine ⟨f, ps, st, sl, so, p.bind.imp fun x st1 f1 H1 t1 s1 p1 v rv => ?_⟩
  exact p1 f1 H1 (Tr.refl _ _) s1 _ ((sl.tr t1 s1).set rv)
theorem tS_setT {is : List Nat} {e : CE} (h : tS K cv C E N (.setT is e) D σ H) : tAsg (tE K cv C (noσ E) e) (gTg K (.many is)) D σ H := by
  obtain ⟨f, ps, st, sl, so, p⟩ := h
  simp only [ex] at p
  refine ⟨f, ps, st, sl, so, p.bind.imp fun x st1 f1 H1 t1 s1 p1 v rv => ?_⟩
  split at p1
  · rename_i qs hq
    exact asg_ok (sl.tr t1 s1) rv hq fun σ' sl' _ => p1 f1 H1 (Tr.refl _ _) s1 σ' sl'
  · exact p1.elim
theorem tS_par {i j : Nat} {a b : CE} (h : tS K cv C E N (.par i j a b) D σ H) : tPar i j (tCons (tE K cv C (noσ E) a) (tCons (tE K cv C (noσ E) b) tNil)) D σ H := by
  obtain ⟨f, ps, st, sl, so, p⟩ := h
  simp only [ex] at p
  refine ⟨f, ps, st, sl, so, p.bind.imp fun x st1 f1 H1 t1 s1 p1 v rv => ⟨f1, ps, st1, sl.tr t1 s1, s1, p1.bind.imp fun y st2 f2 H2 t2 s2 p2 w rw => ?_⟩⟩
  exact ⟨v, w, rfl, p2 f2 H2 (Tr.refl _ _) s2 _ (((sl.tr (t1.trans t2) s2).set (rv.tr t2)).set rw)⟩
theorem tS_par3 {i j k : Nat} {a b c : CE} (h : tS K cv C E N (.par3 i j k a b c) D σ H) : tPar3 i j k (tCons (tE K cv C (noσ E) a) (tCons (tE K cv C (noσ E) b) (tCons (tE K cv C (noσ E) c) tNil))) D σ H := by
  obtain ⟨f, ps, st, sl, so, p⟩ := h
  simp only [ex] at p
  refine ⟨f, ps, st, sl, so, p.bind.imp fun x st1 f1 H1 t1 s1 p1 v rv => ⟨f1, ps, st1, sl.tr t1 s1, s1, p1.bind.imp fun y st2 f2 H2 t2 s2 p2 w rw => ⟨f2, ps, st2, sl.tr (t1.trans t2) s2, s2, p2.bind.imp fun z st3 f3 H3 t3 s3 p3 u ru => ?_⟩⟩⟩
  exact ⟨v, w, u, rfl, p3 f3 H3 (Tr.refl _ _) s3 _ ((((sl.tr (t1.trans (t2.trans t3)) s3).set (rv.tr (t2.trans t3))).set (rw.tr t3)).set ru)⟩
theorem tS_ixset {o i e : CE} (h : tS K cv C E N (.ixset o i e) D σ H) : tAsg (tE K cv C (noσ E) e) (gSub (tE K cv C (noσ E) o) (tE K cv C (noσ E) i) rSetL) D σ H := by
  obtain ⟨f, ps, st, sl, so, p⟩ := h
  simp only [ex] at p
  refine ⟨f, ps, st, sl, so, p.bind.imp fun v st1 f1 H1 t1 s1 p1 vv rv => ⟨f1, ps, st1, sl.tr t1 s1, s1, p1.bind.imp fun x st2 f2 H2 t2 s2 p2 xv rx => ⟨f2, ps, st2, sl.tr (t1.trans t2) s2, s2, p2.bind.imp fun y st3 f3 H3 t3 s3 p3 yv ry => ?_⟩⟩⟩
  split at p3
  · rename_i st4 hs
    unfold setP at hs
    split at hs
    · rename_i n k
      split at hs
      · rename_i xs hx
        split at hs
        · rename_i hb
          cases hs
          have rx3 := rx.tr t3
          cases rx3 with
          | loc hn =>
            rename_i p0
            cases ry
            obtain ⟨vs, hv, rs⟩ := s3.obj n _ _ hn hx
            have hp : p0 ∈ f3.l := List.mem_of_getElem? hn
            have rv3 := rv.tr (t2.trans t3)
            have t4 : Tr f3 H3 f3 (upd H3 p0 (.lst (vs.set k.toNat vv))) := Tr.write hp (s3.liv _ hp)
            refine ⟨p0, vs, k, k.toNat, rfl, rfl, hv, ?_, ?_⟩
            · unfold ixN
              rw [if_pos hb.1, if_pos (by rw [← rs.length]; exact hb.2)]
            · have s4 : StOk K f3 (upd H3 p0 (.lst (vs.set k.toNat vv))) (st3.set n (.lst (xs.set k.toNat v))) := s3.write hn ⟨_, upd_same, (rs.set rv3 k.toNat).tr t4⟩
              exact p3 f3 _ t4 s4 σ ((sl.tr (t1.trans (t2.trans t3)) s3).tr t4 s4)
        · cases hs
      · cases hs
    · cases hs
  · exact p3.elim
theorem tS_if {c : CE} {a b : CS} (h : tS K cv C E N (.if_ c a b) D σ H) : tIfS (tT K cv C (noσ E) c) (tS K cv C E N a) (tS K cv C E N b) D σ H := by
  obtain ⟨f, ps, st, sl, so, p⟩ := h
  simp only [ex] at p
  refine ⟨f, ps, st, sl, so, p.bind.imp fun x st1 f1 H1 t1 s1 p1 => ?_⟩
  split at p1
  · exact ⟨true, rfl, iteT ⟨f1, ps, st1, sl.tr t1 s1, s1, p1⟩⟩
  · exact ⟨false, rfl, iteF ⟨f1, ps, st1, sl.tr t1 s1, s1, p1⟩⟩
  · exact p1.elim
theorem tS_ret {e : CE} (h : tS K cv C E N (.ret e) D σ H) : tRet (tE K cv C (noσ E) e) D σ H := by
  obtain ⟨f, ps, st, sl, so, p⟩ := h
  simp only [ex] at p
  refine ⟨f, ps, st, sl, so, p.bind.imp fun x st1 f1 H1 t1 s1 p1 v rv => ?_⟩
  exact p1 f1 H1 (Tr.refl _ _) s1 v rv
theorem tS_raise {c : Nat} (h : tS K cv C E N (.raise_ c) D σ H) : E (cv c) none H := by
  obtain ⟨f, ps, st, sl, so, p⟩ := h
  simp only [ex] at p
  exact p f H (Tr.refl _ _) so
theorem tS_for {tg : Tg} {src : CI} {body : CS} (h : tS K cv C E N (.for_ tg src body) D σ H) : tFor (tI K cv C (noσ E) src) (gTg K tg) (tS K cv C E N body) D σ H := by
  obtain ⟨f, ps, st, sl, so, p⟩ := h
  simp only [ex] at p
  refine ⟨f, ps, st, sl, so, p.bind.imp fun s st1 f1 H1 t1 s1 p1 J sj => ?_⟩
  generalize hturn : (fun (v : PV) (qs : Slots) (st2 : Store) => match asg tg v qs with | some rs => ex C N body rs st2 | none => (Wf.R.no : Wf.R Fl)) = turn at p1
  refine ⟨fun i m σ H => ∃ (f : Fm) (ps : Slots) (st : Store), Tr f1 H1 f H ∧ SlOk K f H ps σ ∧ StOk K f H st ∧ Post K cv f H (fun cls H' => E cls none H') (forL s turn m i ps st) fun fl _ f' H' => FlP K D fl f' H', ⟨_, f1, ps, st1, Tr.refl _ _, sl.tr t1 s1, s1, p1⟩, ?_⟩
  rintro i m σ' H' ⟨f2, ps2, st2, t2, sl2, s2, pp⟩
  cases m with
  | zero => exact pp.elim
  | succ k =>
    unfold forL at pp
    cases hn : s.next i st2 with
    | none => rw [hn] at pp; exact pp.elim
    | some o =>
      rw [hn] at pp
      cases o with
      | none => exact .inl ⟨sj.stop f2 H' st2 i t2.lf s2 hn, pp f2 H' (Tr.refl _ _) s2 σ' sl2⟩
      | some v =>
        obtain ⟨hgo, hy⟩ := sj.go f2 H' st2 i v t2.lf s2 hn
        refine .inr ⟨hgo, _, fun σ3 H3 nx => ⟨k, Nat.lt_succ_self k, nx⟩, fun x H3 yl => ?_⟩
        obtain ⟨t3, s3, rx⟩ := hy x H3 yl
        have pp' : Post K cv f2 H' (fun cls H' => E cls none H') ((turn v ps2 st2).bind fun f st1 => match f with
          | .next ps1 => forL s turn k (i + 1) ps1 st1
          | .ret v => .ok (.ret v) st1) (fun fl _ f' H' => FlP K D fl f' H') := pp
        have et := congrFun (congrFun (congrFun hturn v) ps2) st2
        cases ha : asg tg v ps2 with
        | none => rw [ha] at et; dsimp only at et; rw [← et] at pp'; exact pp'.elim
        | some qs =>
          rw [ha] at et
          dsimp only at et
          rw [← et] at pp'
          refine asg_ok (sl2.tr t3 s3) rx ha fun σ4 sl4 _ => ⟨f2, qs, st2, sl4, s3, ?_⟩
          refine (pp'.tr t3).bind.imp fun fl st5 f5 H5 t5 s5 p5 => ?_
          cases fl with
          | next qs5 => exact fun σ5 sl5 => ⟨f5, qs5, st5, t2.trans (t3.trans t5), sl5, s5, p5⟩
          | ret w => exact fun u ru => p5 f5 H5 (Tr.refl _ _) s5 u ru
theorem tS_while {c : CE} {body : CS} (h : tS K cv C E N (.while_ c body) D σ H) : tWhile (tT K cv C (noσ E) c) (tS K cv C E N body) D σ H := by
  obtain ⟨f, ps, st, sl, so, p⟩ := h
  simp only [ex] at p
  refine ⟨fun m σ H => ∃ (f : Fm) (ps : Slots) (st : Store), SlOk K f H ps σ ∧ StOk K f H st ∧ Post K cv f H (fun cls H' => E cls none H') (whileL (fun qs st1 => ev C qs c st1) (fun qs st1 => ex C N body qs st1) m ps st) fun fl _ f' H' => FlP K D fl f' H', ⟨_, f, ps, st, sl, so, p⟩, ?_⟩
  rintro m σ' H' ⟨f2, ps2, st2, sl2, s2, pp⟩
  cases m with
  | zero => exact pp.elim
  | succ k =>
    unfold whileL at pp
    refine ⟨f2, ps2, st2, sl2, s2, pp.bind.imp fun x st3 f3 H3 t3 s3 p3 => ?_⟩
    split at p3
    · refine ⟨true, rfl, iteT ⟨_, fun σ3 H3 nx => ⟨k, Nat.lt_succ_self k, nx⟩, f3, ps2, st3, sl2.tr t3 s3, s3, ?_⟩⟩
      refine p3.bind.imp fun fl st5 f5 H5 t5 s5 p5 => ?_
      cases fl with
      | next qs5 => exact fun σ5 sl5 => ⟨f5, qs5, st5, sl5, s5, p5⟩
      | ret w => exact fun u ru => p5 f5 H5 (Tr.refl _ _) s5 u ru
    · exact ⟨false, rfl, iteF (p3 f3 H3 (Tr.refl _ _) s3 σ' (sl2.tr t3 s3))⟩
    · exact p3.elim
end
end Wf
/-! Whatever the text's term, if the core has one of it, its reading is the core's. -/
namespace Wf
open PySem PySem.Spec PyProof.Rows L2
/-- a def's promise, by what is known of its calls -/
def spOf (K : PySem.W.Frag) (cv : Nat → Value) (C : Orc) (i : Nat) : Sp := fun vs H Q E => ∃ f args st, StOk K f H st ∧ Reps K f H args vs ∧ Post K cv f H (fun cls H' => E cls none H') (C i args st) fun x _ f' H' => ∀ v, Rep K f' H' x v → Q v H'
/-- an exception class of the program -/
structure ExcC (X : Cx) (x : Str) (v : Value) : Prop where
  ex : ∃ C, v = .ref C ∧ X.mg x = some (.ref C) ∧ PySem.W.excIn X.K C He.veBase "ValueError.__new__" = true ∧ PySem.W.keepIn X.K (.ref C) = true ∧ Raises X (.ref C)
structure Good (X : Cx) (c : Ctx) (cv : Nat → Value) (C : Orc) (W : WX') : Prop where
  N : X.N = c.N
  nd : c.N.Nodup
  sc : X.env.scope = c.sc
  kind : c.sc.kind = .function
  calm : X.calm = true
  tk : Takes X W
  po : PassesOwn (model X.prog X.w) X.A X.env X.xe
  un : X.A.units + 65 < cLine
  fnc : ∀ x, x ∉ c.caps → c.sc.names.lookup x = some .cell → X.fn x = true
  orc : ∀ x i, x ∈ c.fns → fnNames.idxOf? x = some i → ∃ k f fd ps, Room k X.A ∧ X.mg x = some (.ref f) ∧ PySem.W.keepIn X.K (.ref f) = true ∧ Binds X.K fd ps [] ∧ FnOk X.prog X.w X.K X.mg X.base (L2.CX X.prog X.w) k f fd ps (spOf X.K cv C i)
  bi : ∀ x ∈ bNames, X.mg x = none
  gc : ∀ x v, x ∈ c.gs → gconst x = some v → ∃ u w, X.mg x = some u ∧ RelV w u ∧ ∀ f H, Rep X.K f H v w
  exc : ∀ x i, x ∈ c.excs → excNames.idxOf? x = some i → ExcC X x (cv i)
section
variable {X : Cx} {c : Ctx} {cv : Nat → Value} {C : Orc} {W : WX'}
theorem Good.gl (g : Good X c cv C W) {x : Str} (h : c.isGl x = true) : Gl X x := by
  show X.env.scope.names.lookup x = _
  rw [g.sc]
  exact of_decide_eq_true h
theorem idx_get {α : Type} [DecidableEq α] {l : List α} {x : α} {i : Nat} (h : l.idxOf? x = some i) : l[i]? = some x := by
  rw [List.idxOf?_eq_some_iff] at h
  obtain ⟨h1, h2, _⟩ := h
  rw [List.getElem?_eq_getElem h1, h2]
theorem Good.slot (g : Good X c cv C W) {x : Str} {i : Nat} (h : c.slot x = some i) : X.N[i]? = some x ∧ Vis X.env.scope x := by
  unfold Ctx.slot at h
  rw [g.N]
  unfold Vis
  rw [g.sc]
  split at h
  · rename_i e; exact ⟨idx_get h, .inl e⟩
  · rename_i e; exact ⟨idx_get h, .inr (.inl e)⟩
  · rename_i e; exact ⟨idx_get h, .inr (.inr e)⟩
  · cases h
theorem Good.lslot (g : Good X c cv C W) {x : Str} {i : Nat} (h : c.lslot x = some i) : X.N[i]? = some x ∧ L2.Loc X.env.scope x ∧ (X.fn x = true ∨ X.env.scope.names.lookup x = some .local) := by
  unfold Ctx.lslot at h
  split at h
  · cases h
  rename_i hcap
  rw [g.N]
  unfold L2.Loc
  rw [g.sc]
  split at h
  · rename_i e; exact ⟨idx_get h, .inl e, .inr e⟩
  · rename_i e; exact ⟨idx_get h, .inr e, .inl (g.fnc x hcap e)⟩
  · cases h
theorem Good.nodup (g : Good X c cv C W) : X.N.Nodup := by rw [g.N]; exact g.nd
theorem star_ne {n : Nat} {e : Expr} {x : CE} (h : compE n c e = some x) (es : List Expr) (env : Env) : starEach (e :: es) env = (false, eval e env) :: starEach es env := by
  cases n with
  | zero => cases h
  | succ n => cases e <;> first | rfl | (simp only [compE] at h; cases h)
theorem star_any : ∀ {n : Nat} {es : List Expr} {xs : CEs} (h : compEs n c es = some xs) (pos : Pos) (env : Env), (backTo pos (starEach es env)).any (·.1) = false
  | 0, _, _, h, _, _ => by cases h
  | n + 1, [], _, h, _, _ => rfl
  | n + 1, e :: r, xs, h, pos, env => by
    have h2 : (match compE n c e, compEs n c r with | some x, some y => some (CEs.cons x y) | _, _ => none) = some xs := h
    cases q : compE n c e with
    | none => rw [q] at h2; cases h2
    | some x =>
      cases q2 : compEs n c r with
      | none => rw [q, q2] at h2; cases h2
      | some y =>
        rw [star_ne q]
        show (false || (backTo pos (starEach r env)).any (·.1)) = false
        rw [star_any q2]
        rfl
theorem tests_of {b : List Expr} {n : Nat} : True := trivial
/-- targets -/
theorem pgs_P (g : Good X c cv C W) : ∀ {es : List Expr} {is : List Nat}, namesT c es = some is → PGs X es (gNames is) ∧ (assignEach es X.env).length = is.length ∧ (assignEach es X.env).findIdx? (·.1) = none
  | [], _, h => by cases h; exact ⟨pgs_nil, rfl, rfl⟩
  | e :: r, is, h => by
    cases e with
    | Name x p =>
      have h2 : (match c.lslot x, namesT c r with | some i, some is => some (i :: is) | _, _ => none) = some is := h
      cases q : c.lslot x with
      | none => rw [q] at h2; cases h2
      | some i =>
        cases q2 : namesT c r with
        | none => rw [q, q2] at h2; cases h2
        | some js =>
          rw [q, q2] at h2
          cases h2
          obtain ⟨h3, h4, h5⟩ := pgs_P g q2
          obtain ⟨a1, a2, a3⟩ := g.lslot q
          refine ⟨pgs_cons (pg_name g.nodup a1 a2 a3) h3 rfl, by show (assignEach r X.env).length + 1 = _; rw [h4]; rfl, ?_⟩
          show ((false, assign (.Name x p) X.env) :: assignEach r X.env).findIdx? (·.1) = none
          rw [List.findIdx?_cons]
          simp [h5]
    | _ => cases h
theorem pg_P (g : Good X c cv C W) {tg : Expr} {t : Tg} (h : compTg c tg = some t) : PG X tg (gTg X.K t) := by
  cases tg with
  | Name x p =>
    have h2 : (c.lslot x).map Tg.one = some t := h
    cases q : c.lslot x with
    | none => rw [q] at h2; cases h2
    | some i =>
      rw [q] at h2
      cases h2
      obtain ⟨a1, a2, a3⟩ := g.lslot q
      exact pg_name g.nodup a1 a2 a3
  | Tuple es k p =>
    have h2 : (namesT c es).map Tg.many = some t := h
    cases q : namesT c es with
    | none => rw [q] at h2; cases h2
    | some is =>
      rw [q] at h2
      cases h2
      obtain ⟨h3, h4, h5⟩ := pgs_P g q
      exact pg_tup g.calm h3 h4 h5
  | _ => cases h
theorem relab_eq (scope : Scope) (env : Env) : relabel scope env = relabS scope env.scope := rfl
theorem lookup_map_cell {F : Str × NameKind → Str × NameKind} (h1 : ∀ y, (F y).1 = y.1) (h2 : ∀ y, y.2 ≠ .free → F y = y) {x : Str} : ∀ {names : List (Str × NameKind)}, x ∉ (names.filter fun y => y.2 == .free).map (·.1) → (names.map F).lookup x = some .cell → names.lookup x = some .cell
  | [], _, h => by cases h
  | y :: r, hc, h => by
    rw [List.map_cons] at h
    obtain ⟨n, k⟩ := y
    by_cases hk : k = .free
    · subst hk
      have hc2 : x ≠ n ∧ x ∉ (r.filter fun y => y.2 == .free).map (·.1) := by
        simp only [List.filter_cons, beq_self_eq_true, if_true, List.map_cons, List.mem_cons, not_or] at hc
        exact hc
      have hb : (x == n) = false := by simpa using hc2.1
      have e1 := h1 (n, .free)
      cases e : F (n, .free) with
      | mk n' k' =>
        rw [e] at e1 h
        have e2 : n' = n := e1
        subst e2
        rw [List.lookup_cons, hb] at h ⊢
        exact lookup_map_cell h1 h2 hc2.2 h
    · have hc2 : x ∉ (r.filter fun y => y.2 == .free).map (·.1) := by
        rw [List.filter_cons, if_neg (by simpa using hk)] at hc
        exact hc
      rw [h2 (n, k) hk] at h
      rw [List.lookup_cons] at h ⊢
      split at h
      · exact h
      · exact lookup_map_cell h1 h2 hc2 h
theorem relab_cell {sc scope : Scope} {x : Str} (hc : x ∉ capsOf scope) (h : (relabS scope sc).names.lookup x = some .cell) : scope.names.lookup x = some .cell := by
  refine lookup_map_cell (F := fun (n, k) => if (k == NameKind.free && sc.kind == .function && sc.names.lookup n == some .cell) then (n, NameKind.cell) else (n, k)) (fun y => ?_) (fun y hy => ?_) hc h
  · obtain ⟨n, k⟩ := y
    dsimp only
    split <;> rfl
  · obtain ⟨n, k⟩ := y
    have hf : (k == NameKind.free) = false := by simpa using hy
    simp [hf]
/-- within a comprehension -/
theorem Good.blk (g : Good X c cv C W) {scope : Scope} (ok : L2.blkC c.N c.sc scope (ownOf c.N scope) = true) (s : Shared) (H : Hp) (A : Addr) (cl : List (Str × Addr)) (fp : List Addr) :
    Good (X.blk s H scope (compEnvC scope cl A X.env) fp) (c.blk scope) cv C (fun _ _ _ _ => False) where
  N := g.N
  nd := g.nd
  sc := by show relabel scope X.env = relabS scope c.sc; rw [relab_eq, g.sc]
  kind := (L2.blkOk_by ok).kind
  calm := g.calm
  tk := takes0
  po := PassesOwn.never
  un := g.un
  fnc := fun x hc e => by
    show (scope.names.lookup x == some .cell) = true
    have e2 : scope.names.lookup x = some .cell := relab_cell hc e
    rw [e2]
    rfl
  orc := g.orc
  bi := g.bi
  gc := g.gc
  exc := fun x i h1 h2 => by
    obtain ⟨Cx, e1, e2, e3, e4, e5⟩ := (g.exc x i h1 h2).ex
    exact ⟨Cx, e1, e2, e3, e4, e5⟩
end
end Wf
namespace Wf
open PySem PySem.Spec PyProof.Rows L2
abbrev PEs (cv : Nat → Value) (C : Orc) (n : Nat) : Prop := ∀ (X : Cx) (c : Ctx) (W : WX') (e : Expr) (x : CE), Good X c cv C W → compE n c e = some x → PE X e (tE X.K cv C W x)
abbrev PTsn (cv : Nat → Value) (C : Orc) (n : Nat) : Prop := ∀ (X : Cx) (c : Ctx) (W : WX') (e : Expr) (x : CE), Good X c cv C W → compE n c e = some x → testOk n e = true → PT X e (tT X.K cv C W x)
abbrev PAs (cv : Nat → Value) (C : Orc) (n : Nat) : Prop := ∀ (X : Cx) (c : Ctx) (W : WX') (es : List Expr) (x : CEs), Good X c cv C W → compEs n c es = some x → PA X es (tA X.K cv C W x)
abbrev POs (cv : Nat → Value) (C : Orc) (n : Nat) : Prop := ∀ (X : Cx) (c : Ctx) (W : WX') (e : Option Expr) (x : CEo), Good X c cv C W → compO n c e = some x → PO X e (tO X.K cv C W x)
abbrev PCs (cv : Nat → Value) (C : Orc) (n : Nat) : Prop := ∀ (X : Cx) (c : Ctx) (W : WX') (es : List Expr) (x : CEo), Good X c cv C W → compC n c es = some x → PTs X es (ttOf X.K cv C W x)
abbrev PIs (cv : Nat → Value) (C : Orc) (n : Nat) : Prop := ∀ (X : Cx) (c : Ctx) (W : WX') (tg e : Expr) (x : CI), Good X c cv C W → compI n c tg e = some x → PI X tg e (tI X.K cv C W x) ∧ ∀ env v, foldedSetIterable e env v = pure v
section
variable {X : Cx} {c : Ctx} {cv : Nat → Value} {C : Orc} {W : WX'} {n : Nat}
theorem om {α β : Type} {o : Option α} {f : α → β} {y : β} (h : o.map f = some y) : ∃ x, o = some x ∧ y = f x := by
  cases o with
  | none => cases h
  | some x => exact ⟨x, rfl, (Option.some.inj h).symm⟩
/-- a reading of a value, as a test -/
theorem tT_of {x : CE} {t : TE} {σ : L2.St} {H : Hp} {Q : Bool → Hp → Prop} (i : ∀ Q, tE X.K cv C W x σ H Q → t σ H Q) (h : tT X.K cv C W x σ H Q) : t σ H fun v H1 => ∃ k, v = .bl k ∧ Q k H1 := by
  refine i _ ?_
  obtain ⟨f, ps, st, sl, so, p⟩ := h
  refine ⟨f, ps, st, sl, so, p.imp fun y st1 f1 H1 t1 s1 p1 v rv => ?_⟩
  obtain ⟨b, rfl, q⟩ := p1
  cases rv
  exact ⟨b, rfl, q⟩
theorem pt_of {e : Expr} {x : CE} (h : PE X e (tE X.K cv C W x)) (he : ∀ whole, isTrue e X.env whole = (do let v ← whole; standAt e.pos; holding [v] (truthy v))) : PT X e (tT X.K cv C W x) :=
  PT.of' (pt_val h he) fun σ H Q q => tT_of (fun _ z => z) q
theorem sE_const {k : Const} {j : Nat} {pos : Pos} {v : PV} (h : cstOf k = some v) : PE X (.Constant k j pos) (tE X.K cv C W (.cst v)) := by
  cases k with
  | none => cases h; exact PE.of' pe_non fun σ H Q q => tE_cst (fun _ _ => .non) q
  | bool b => cases h; exact PE.of' pe_bl fun σ H Q q => tE_cst (fun _ _ => .bl b) q
  | int i => cases h; exact PE.of' pe_int fun σ H Q q => tE_cst (fun _ _ => .int i) q
  | str z =>
    cases h
    refine PE.of' pe_str fun σ H Q q => tE_cst (fun f H => ?_) q
    have : z = ⟨z.cps.toList.toArray⟩ := by cases z; simp
    rw [this]
    exact .str _
  | _ => cases h
theorem sE_call (g : Good X c cv C W) (hA : PAs cv C n) {f : Str} {p pos : Pos} {a : Expr} {as : List Expr} {i : Nat} {xs : CEs} (hgl : c.isGl f = true) (hdb : (f == ("__debug__" : Str)) = false) (hf : f ∈ c.fns) (hi : fnNames.idxOf? f = some i) (h : compEs n c (a :: as) = some xs)
    (ha : ∃ m x, compE m c a = some x) (has : ∃ m x, compEs m c as = some x) : PE X (.Call (.Name f p) (a :: as) [] pos) (tE X.K cv C W (.call i xs)) := by
  obtain ⟨k, fa, fd, ps, hr, hm, hk, hb, F⟩ := g.orc f i hf hi
  obtain ⟨_, _, ha⟩ := ha
  obtain ⟨_, _, has⟩ := has
  refine PE.of' (pe_callSD (E := fun σ cls d H => W cls d σ H) F hr (g.gl hgl) hm hk hb .nil (fun σ => passAt g.tk σ) (hA X c W _ _ g h) hdb (star_ne ha as X.env) (star_any has pos X.env)) fun σ H Q q => ?_
  obtain ⟨f, qs, st, sl, so, p⟩ := q
  simp only [ev] at p
  refine ⟨f, qs, st, sl, so, p.bind.imp fun vs st1 f1 H1 t1 s1 p1 ws rs => ?_⟩
  dsimp only
  rw [List.append_nil]
  exact ⟨f1, vs, st1, s1, rs, p1⟩
theorem b1_boot {f : Str} {b : B1} (h : b1Of f = some b) : f ∈ bNames ∧ bootBuiltins f = some (b1Val b) := by
  unfold b1Of at h
  split at h
  · cases h; rename_i e; subst e; exact ⟨by decide +kernel, by decide +kernel⟩
  split at h
  · cases h; rename_i e; subst e; exact ⟨by decide +kernel, by decide +kernel⟩
  split at h
  · cases h; rename_i e; subst e; exact ⟨by decide +kernel, by decide +kernel⟩
  split at h
  · cases h; rename_i e; subst e; exact ⟨by decide +kernel, by decide +kernel⟩
  split at h
  · cases h; rename_i e; subst e; exact ⟨by decide +kernel, by decide +kernel⟩
  split at h
  · cases h; rename_i e; subst e; exact ⟨by decide +kernel, by decide +kernel⟩
  split at h
  · cases h; rename_i e; subst e; exact ⟨by decide +kernel, by decide +kernel⟩
  · cases h
theorem b2_boot {f : Str} {b : B2} (h : b2Of f = some b) : f ∈ bNames ∧ bootBuiltins f = some (b2Val b) := by
  unfold b2Of at h
  split at h
  · cases h; rename_i e; subst e; exact ⟨by decide +kernel, by decide +kernel⟩
  split at h
  · cases h; rename_i e; subst e; exact ⟨by decide +kernel, by decide +kernel⟩
  · cases h
theorem ty_boot {f : Str} {b : Ty} (h : tyOf f = some b) : f ∈ bNames ∧ bootBuiltins f = some (.type (tyName b)) ∧ f ≠ "__name__" ∧ (f == ("__debug__" : Str)) = false := by
  unfold tyOf at h
  split at h
  · cases h; rename_i e; subst e; exact ⟨by decide +kernel, by decide +kernel, by decide +kernel, by decide +kernel⟩
  split at h
  · cases h; rename_i e; subst e; exact ⟨by decide +kernel, by decide +kernel, by decide +kernel, by decide +kernel⟩
  split at h
  · cases h; rename_i e; subst e; exact ⟨by decide +kernel, by decide +kernel, by decide +kernel, by decide +kernel⟩
  split at h
  · cases h; rename_i e; subst e; exact ⟨by decide +kernel, by decide +kernel, by decide +kernel, by decide +kernel⟩
  · cases h
/-- a call of a built-in that is a function or a class -/
theorem pe_callV {f : Str} {v : Value} {r : List V → Hp → VK → Prop} {p pos : Pos} {e : Expr} {es : List Expr} {t : TA} (hv : (∃ id, v = .builtin id) ∨ ∃ T, v = .type T) (hc : CallR X v r) (hg : Gl X f) (hm : X.mg f = none) (hb : bootBuiltins f = some v) (ha : PA X (e :: es) t) (hn : f ≠ "__name__") (hdb : (f == ("__debug__" : Str)) = false)
    (he : starEach (e :: es) X.env = (false, eval e X.env) :: starEach es X.env) (hpl : (backTo pos (starEach es X.env)).any (·.1) = false) : PE X (.Call (.Name f p) (e :: es) [] pos) (tCB r t) := by
  rcases hv with ⟨id, rfl⟩ | ⟨T, rfl⟩
  · exact pe_callB hc hg hm hb ha hn hdb he hpl
  · exact pe_callTy hc hg hm hb ha hn hdb he hpl
theorem sE_b1 (g : Good X c cv C W) (hE : PEs cv C n) {f : Str} {p pos : Pos} {a : Expr} {b : B1} {x : CE} (hgl : c.isGl f = true) (hdb : (f == ("__debug__" : Str)) = false) (hn : f ≠ "__name__") (hb : b1Of f = some b) (h : compE n c a = some x) :
    PE X (.Call (.Name f p) [a] [] pos) (tE X.K cv C W (.b1 b x)) := by
  obtain ⟨h1, h2⟩ := b1_boot hb
  have hv : (∃ id, b1Val b = .builtin id) ∨ ∃ T, b1Val b = .type T := by
    unfold b1Of at hb
    cases b <;> first | exact .inl ⟨_, rfl⟩ | exact .inr ⟨_, rfl⟩ | (exfalso; revert hb; (repeat' split) <;> intro q <;> cases q)
  exact PE.of' (pe_callV hv (b1_P g.calm b) (g.gl hgl) (g.bi f h1) h2 (pa_cons (hE X c W a x g h) pa_nil (star_ne h [] X.env)) hn hdb (star_ne h [] X.env) rfl) fun σ H Q q => tE_b1 q
theorem sE_b2 (g : Good X c cv C W) (hE : PEs cv C n) {f : Str} {p pos : Pos} {a d : Expr} {b : B2} {x y : CE} (hgl : c.isGl f = true) (hdb : (f == ("__debug__" : Str)) = false) (hn : f ≠ "__name__") (hb : b2Of f = some b) (h : compE n c a = some x) (h' : compE n c d = some y) :
    PE X (.Call (.Name f p) [a, d] [] pos) (tE X.K cv C W (.b2 b x y)) := by
  obtain ⟨h1, h2⟩ := b2_boot hb
  have hv : (∃ id, b2Val b = .builtin id) ∨ ∃ T, b2Val b = .type T := by cases b <;> exact .inl ⟨_, rfl⟩
  refine PE.of' (pe_callV hv (b2_P g.calm b) (g.gl hgl) (g.bi f h1) h2 (pa_cons (hE X c W a x g h) (pa_cons (hE X c W d y g h') pa_nil (star_ne h' [] X.env)) (star_ne h [d] X.env)) hn hdb (star_ne h [d] X.env) ?_) fun σ H Q q => tE_b2 q
  rw [star_ne h']
  rfl
theorem sE_isi (g : Good X c cv C W) (hE : PEs cv C n) {t : Str} {p pt pos : Pos} {a : Expr} {y : Ty} {x : CE} (hgl : c.isGl "isinstance" = true) (hgt : c.isGl t = true) (ht : tyOf t = some y) (h : compE n c a = some x) :
    PE X (.Call (.Name "isinstance" p) [a, .Name t pt] [] pos) (tE X.K cv C W (.isi x y)) := by
  obtain ⟨h1, h2, h3, h4⟩ := ty_boot ht
  have pt' : PE X (.Name t pt) (tC (.ty (tyName y))) := pe_bltn (g.gl hgt) (g.bi t h1) h2 rfl h3 h4
  refine PE.of' (pe_callB (isi_P y) (g.gl hgl) (g.bi "isinstance" (by decide +kernel)) (by decide +kernel) (pa_cons (hE X c W a x g h) (pa_cons pt' pa_nil rfl) (star_ne h [.Name t pt] X.env)) (by decide +kernel) (by decide +kernel) (star_ne h [.Name t pt] X.env) rfl) fun σ H Q q => tE_isi q
theorem base_ne {o : Expr} {m : Str} (h : ∀ x p q, o ≠ .Call (.Name x p) [] [] q) (env : Env) : attributeBase o m env (eval o env) = eval o env := by
  cases o with
  | Call f as ks pos =>
    cases f with
    | Name x p =>
      cases as with
      | nil =>
        cases ks with
        | nil => exact absurd rfl (h x p pos)
        | cons => rfl
      | cons => rfl
    | _ => rfl
  | _ => rfl
theorem sE_m1 (g : Good X c cv C W) (hE : PEs cv C n) {m : Str} {k : M1} {o a : Expr} {x y : CE} {apos cpos : Pos} (hl : (apos.endLine == cpos.line) = true) (ho : ∀ x p q, o ≠ .Call (.Name x p) [] [] q) (hm : m1Of m = some k) (h : compE n c o = some x) (h' : compE n c a = some y) :
    PE X (.Call (.Attribute o m apos) [a] [] cpos) (tE X.K cv C W (.m1 k x y)) := by
  have hfew : ((backTo cpos (starEach [a] X.env)).all (fun x => !x.1) && (backToKw cpos (keywordEach [] X.env)).all (fun x => x.1.isSome)
      && decide (([a]).length + ([] : List Keyword).length + (if ([] : List Keyword).isEmpty then 0 else 1) < 30)) = true := by
    rw [star_ne h']
    rfl
  unfold m1Of at hm
  split at hm
  · cases hm
    rename_i e
    subst e
    exact PE.of' (pe_bm PySem.F.plainAttrs_str PySem.F.slot_str_count PySem.F.type_str_count mt_countP (hE X c W o x g h) (pa_cons (hE X c W a y g h') pa_nil (star_ne h' [] X.env)) (base_ne ho X.env) hfew hl (star_ne h' [] X.env) rfl) fun σ H Q q => tE_m1 q
  split at hm
  · cases hm
    rename_i e
    subst e
    exact PE.of' (pe_bm PySem.F.plainAttrs_str PySem.F.slot_str_join PySem.F.type_str_join mt_joinP (hE X c W o x g h) (pa_cons (hE X c W a y g h') pa_nil (star_ne h' [] X.env)) (base_ne ho X.env) hfew hl (star_ne h' [] X.env) rfl) fun σ H Q q => tE_m1 q
  · cases hm
theorem sE_mapp (g : Good X c cv C W) (hE : PEs cv C n) {o a : Expr} {x y : CE} {apos cpos : Pos} (hl : (apos.endLine == cpos.line) = true) (ho : ∀ x p q, o ≠ .Call (.Name x p) [] [] q) (h : compE n c o = some x) (h' : compE n c a = some y) :
    PE X (.Call (.Attribute o "append" apos) [a] [] cpos) (tE X.K cv C W (.mapp x y)) := by
  have hfew : ((backTo cpos (starEach [a] X.env)).all (fun x => !x.1) && (backToKw cpos (keywordEach [] X.env)).all (fun x => x.1.isSome)
      && decide (([a]).length + ([] : List Keyword).length + (if ([] : List Keyword).isEmpty then 0 else 1) < 30)) = true := by
    rw [star_ne h']
    rfl
  exact PE.of' (pe_bm PySem.F.plainAttrs_list PySem.F.slot_list_append PySem.F.type_list_append mt_append (hE X c W o x g h) (pa_cons (hE X c W a y g h') pa_nil (star_ne h' [] X.env)) (base_ne ho X.env) hfew hl (star_ne h' [] X.env) rfl) fun σ H Q q => tE_mapp q
theorem sE_mext (g : Good X c cv C W) (hE : PEs cv C n) {o a : Expr} {x y : CE} {apos cpos : Pos} (hl : (apos.endLine == cpos.line) = true) (ho : ∀ x p q, o ≠ .Call (.Name x p) [] [] q) (h : compE n c o = some x) (h' : compE n c a = some y) :
    PE X (.Call (.Attribute o "extend" apos) [a] [] cpos) (tE X.K cv C W (.mext x y)) := by
  have hfew : ((backTo cpos (starEach [a] X.env)).all (fun x => !x.1) && (backToKw cpos (keywordEach [] X.env)).all (fun x => x.1.isSome)
      && decide (([a]).length + ([] : List Keyword).length + (if ([] : List Keyword).isEmpty then 0 else 1) < 30)) = true := by
    rw [star_ne h']
    rfl
  exact PE.of' (pe_bm PySem.F.plainAttrs_list PySem.F.slot_list_extend PySem.F.type_list_extend mt_extR (hE X c W o x g h) (pa_cons (hE X c W a y g h') pa_nil (star_ne h' [] X.env)) (base_ne ho X.env) hfew hl (star_ne h' [] X.env) rfl) fun σ H Q q => tE_mext q
theorem own_in {N : List Str} {scope : Scope} {t : Tg} (h : tgOk t (ownOf N scope) = true) : tgIn t ((ownOf N scope).map (·.2)) := by
  cases t with
  | one i => exact List.contains_iff_mem.mp h
  | many is => exact fun i hi => List.contains_iff_mem.mp (List.all_eq_true.mp h i hi)
theorem sE_comp (g : Good X c cv C W) (hE : PEs cv C n) (hI : PIs cv C n) (hC : PCs cv C n) {elt tg iter : Expr} {ifs : List Expr} {scope : Scope} {pos : Pos} {x : CE} {t : Tg} {s : CI} {q : CEo} (ok : L2.blkC c.N c.sc scope (ownOf c.N scope) = true)
    (h1 : compE n (c.blk scope) elt = some x) (h2 : compTg (c.blk scope) tg = some t) (h3 : compI n c tg iter = some s) (h4 : compC n (c.blk scope) ifs = some q) (h5 : tgOk t (ownOf c.N scope) = true) :
    PE X (.ListComp elt [⟨tg, iter, ifs, 0⟩] scope pos) (tE X.K cv C W (.comp x t s q ((ownOf c.N scope).map (·.2)))) ∧
    (∀ {i : Nat} {y : Str} {py spos : Pos} {E : XK} {N : Nat}, W = noσ E → X.N[i]? = some y → X.env.scope.names.lookup y = some .local → swapsWith (.ListComp elt [⟨tg, iter, ifs, 0⟩] scope pos) (some (.Name y py)) spos.line X.env = pure true →
      PS X (.Assign [.Name y py] (.ListComp elt [⟨tg, iter, ifs, 0⟩] scope pos) spos) (tS X.K cv C E N (.set i (.comp x t s q ((ownOf c.N scope).map (·.2)))))) := by
  obtain ⟨hi, hs⟩ := hI X c W tg iter s g h3
  have bok : BlkOk X.N X.env.scope scope (ownOf c.N scope) := by rw [g.N, g.sc]; exact L2.blkOk_by ok
  have hg : ∀ (s : Shared) (H : Hp) (A : Addr) (cl : List (Str × Addr)) (fp : List Addr), PG (X.blk s H scope (compEnvC scope cl A X.env) fp) tg (gTg X.K t) := fun s H A cl fp => pg_P (g.blk ok s H A cl fp) h2
  have he : ∀ (s : Shared) (H : Hp) (A : Addr) (cl : List (Str × Addr)) (fp : List Addr), PE (X.blk s H scope (compEnvC scope cl A X.env) fp) elt (tE X.K cv C (fun _ _ _ _ => False) x) := fun s H A cl fp => hE _ _ _ elt x (g.blk ok s H A cl fp) h1
  have hc2 : ∀ (s : Shared) (H : Hp) (A : Addr) (cl : List (Str × Addr)) (fp : List Addr), PTs (X.blk s H scope (compEnvC scope cl A X.env) fp) ifs (ttOf X.K cv C (fun _ _ _ _ => False) q) := fun s H A cl fp => hC _ _ _ ifs _ (g.blk ok s H A cl fp) h4
  refine ⟨PE.of' (pe_lc g.calm g.nodup hi bok hg hc2 he fun v => hs _ v) fun σ H Q z => tE_comp (own_in h5) rfl z, ?_⟩
  intro i y py spos E N hW hN hy hsw
  refine ⟨fun pins s0 σ H D I hq => ?_⟩
  refine (ps_setLc g.calm g.nodup hN hy hsw hi bok hg hc2 he fun v => hs _ v).run pins s0 σ H D I ?_
  have z := tS_set hq
  rw [← hW] at z
  exact tE_comp (own_in h5) rfl z
theorem compI_fold {c : Ctx} {tg e : Expr} {x : CI} (h : compI n c tg e = some x) (env : Env) (v : Value) : foldedSetIterable e env v = pure v := by
  cases n with
  | zero => cases h
  | succ n =>
    cases e with
    | Set es p => simp only [compI] at h; cases h
    | _ => rfl
theorem sE_comp2 (g : Good X c cv C W) (hE : PEs cv C n) (hI : PIs cv C n) {elt tg iter tg1 iter1 : Expr} {scope : Scope} {pos : Pos} {x : CE} {i0 j0 : Nat} {s s2 : CI} (ok : L2.blkC c.N c.sc scope (ownOf c.N scope) = true)
    (h1 : compE n (c.blk scope) elt = some x) (h2 : compTg (c.blk scope) tg = some (.one i0)) (h3 : compI n c tg iter = some s) (h4 : compTg (c.blk scope) tg1 = some (.one j0)) (h5 : compI n (c.blk scope) tg1 iter1 = some s2) (h6 : tgOk (.one i0) (ownOf c.N scope) = true) (h7 : tgOk (.one j0) (ownOf c.N scope) = true) :
    PE X (.ListComp elt [⟨tg, iter, [], 0⟩, ⟨tg1, iter1, [], 0⟩] scope pos) (tE X.K cv C W (.comp2 x i0 s j0 s2 ((ownOf c.N scope).map (·.2)))) ∧
    (∀ {i : Nat} {y : Str} {py spos : Pos} {E : XK} {N : Nat}, W = noσ E → X.N[i]? = some y → X.env.scope.names.lookup y = some .local → swapsWith (.ListComp elt [⟨tg, iter, [], 0⟩, ⟨tg1, iter1, [], 0⟩] scope pos) (some (.Name y py)) spos.line X.env = pure true →
      PS X (.Assign [.Name y py] (.ListComp elt [⟨tg, iter, [], 0⟩, ⟨tg1, iter1, [], 0⟩] scope pos) spos) (tS X.K cv C E N (.set i (.comp2 x i0 s j0 s2 ((ownOf c.N scope).map (·.2)))))) := by
  obtain ⟨hi, hs⟩ := hI X c W tg iter s g h3
  have bok : BlkOk X.N X.env.scope scope (ownOf c.N scope) := by rw [g.N, g.sc]; exact L2.blkOk_by ok
  have hg : ∀ (s : Shared) (H : Hp) (A : Addr) (cl : List (Str × Addr)) (fp : List Addr), PG (X.blk s H scope (compEnvC scope cl A X.env) fp) tg (gTg X.K (.one i0)) := fun s H A cl fp => pg_P (g.blk ok s H A cl fp) h2
  have hg1 : ∀ (s : Shared) (H : Hp) (A : Addr) (cl : List (Str × Addr)) (fp : List Addr), PG (X.blk s H scope (compEnvC scope cl A X.env) fp) tg1 (gTg X.K (.one j0)) := fun s H A cl fp => pg_P (g.blk ok s H A cl fp) h4
  have he : ∀ (s : Shared) (H : Hp) (A : Addr) (cl : List (Str × Addr)) (fp : List Addr), PE (X.blk s H scope (compEnvC scope cl A X.env) fp) elt (tE X.K cv C (fun _ _ _ _ => False) x) := fun s H A cl fp => hE _ _ _ elt x (g.blk ok s H A cl fp) h1
  have hi1 : ∀ (s : Shared) (H : Hp) (A : Addr) (cl : List (Str × Addr)) (fp : List Addr), PI (X.blk s H scope (compEnvC scope cl A X.env) fp) tg1 iter1 (tI X.K cv C (fun _ _ _ _ => False) s2) := fun s H A cl fp => (hI _ _ _ tg1 iter1 s2 (g.blk ok s H A cl fp) h5).1
  have hs1 : ∀ env v, foldedSetIterable iter1 env v = pure v := compI_fold h5
  have hv : ∀ i ∈ [j0], i ∈ (ownOf c.N scope).map (·.2) := fun i hi => by rw [List.mem_singleton.mp hi]; exact own_in (t := .one j0) h7
  refine ⟨PE.of' (pe_lc2 g.calm g.nodup hi bok hv hg (fun _ _ _ _ _ => pts_nil) hi1 hg1 (fun _ _ _ _ _ => pts_nil) he (fun v => hs _ v) hs1) fun σ H Q z => tE_comp2 (own_in (t := .one i0) h6) z, ?_⟩
  intro i y py spos E N hW hN hy hsw
  refine ⟨fun pins s0 σ H D I hq => ?_⟩
  refine (ps_setLc2 g.calm g.nodup hN hy hsw hi bok hv hg (fun _ _ _ _ _ => pts_nil) hi1 hg1 (fun _ _ _ _ _ => pts_nil) he (fun v => hs _ v) hs1).run pins s0 σ H D I ?_
  have z := tS_set hq
  rw [← hW] at z
  exact tE_comp2 (own_in (t := .one i0) h6) z
end
end Wf
/-! {..}[name]: a display with texts as keys that is read at once. -/
namespace Wf
open PySem PySem.Spec PyProof.Rows L2
def kT (t : Txt) : Key := .inr ⟨t.toArray⟩
theorem kT_inj {a b : Txt} (h : kT a = kT b) : a = b := by
  have h2 : (⟨a.toArray⟩ : Str) = ⟨b.toArray⟩ := Sum.inr.inj h
  injection h2 with h3
  injection h3
section
variable (K : PySem.W.Frag) (cv : Nat → Value) (C : Orc) (W : WX')
def trsOf : List Txt → CEs → List (TE × TE)
  | t :: ts, .cons e r => (tC (.str ⟨t.toArray⟩), tE K cv C W e) :: trsOf ts r
  | _, _ => []
end
def prsOf : List Txt → List V → List (Key × V)
  | t :: ts, v :: vs => (kT t, v) :: prsOf ts vs
  | _, _ => []
section
variable {K : PySem.W.Frag} {cv : Nat → Value} {C : Orc} {W : WX'}
theorem pairs_ok {ps : Slots} {σ : L2.St} : ∀ {ts : List Txt} {es : CEs} {us : List PV} {st st1 : Store} {f : Fm} {H : Hp} {G : List (V × V) → Hp → Prop}, evs C ps es st = .ok us st1 → ts.length = us.length → SlOk K f H ps σ → StOk K f H st →
    (∀ f' H', Tr f H f' H' → StOk K f' H' st1 → ∀ ws, Reps K f' H' us ws → G ((prsOf ts ws).map fun kv => (kV kv.1, kv.2)) H') → tPairs (trsOf K cv C W ts es) σ H G
  | ts, .nil, us, st, st1, f, H, G, he, hl, sl, so, k => by
    simp only [evs] at he
    cases he
    cases ts with
    | cons t ts => cases hl
    | nil => exact k f H (Tr.refl _ _) so [] .nil
  | [], .cons e r, us, st, st1, f, H, G, he, hl, sl, so, k => by
    simp only [evs] at he
    cases h1 : ev C ps e st with
    | no => rw [h1] at he; cases he
    | exc c s => rw [h1] at he; cases he
    | ok v s =>
      rw [h1] at he
      simp only [Wf.R.bind_ok] at he
      cases h2 : evs C ps r s with
      | no => rw [h2] at he; cases he
      | exc c s => rw [h2] at he; cases he
      | ok vs s2 => rw [h2] at he; cases he; cases hl
  | t :: ts, .cons e r, us, st, st1, f, H, G, he, hl, sl, so, k => by
    simp only [evs] at he
    cases h1 : ev C ps e st with
    | no => rw [h1] at he; cases he
    | exc c s => rw [h1] at he; cases he
    | ok v s =>
      rw [h1] at he
      simp only [Wf.R.bind_ok] at he
      cases h2 : evs C ps r s with
      | no => rw [h2] at he; cases he
      | exc c s => rw [h2] at he; cases he
      | ok vs s2 =>
        rw [h2] at he
        cases he
        refine ⟨f, ps, st, sl, so, ?_⟩
        rw [h1]
        intro f1 H1 t1 s1 w rw
        refine pairs_ok h2 (by simpa using hl) (sl.tr t1 s1) s1 fun f2 H2 t2 s2 ws rs => ?_
        exact k f2 H2 (t1.trans t2) s2 (w :: ws) (.cons (rw.tr t2) rs)
theorem merge_out {k : Key} : ∀ {more kvs : List (Key × V)}, (∀ p ∈ more, p.1 ≠ k) → valV (mergeK kvs more) k = valV kvs k
  | [], kvs, _ => rfl
  | p :: r, kvs, h => by
    show valV (mergeK (putK kvs p.1 p.2) r) k = _
    rw [merge_out fun q hq => h q (List.mem_cons_of_mem _ hq), valV_put, if_neg fun z => h p List.mem_cons_self z.symm]
theorem prs_mem : ∀ {ts : List Txt} {vs : List V} {p : Key × V}, p ∈ prsOf ts vs → ∃ t ∈ ts, p.1 = kT t
  | [], _, _, h => by cases h
  | _ :: _, [], _, h => by cases h
  | t :: ts, v :: vs, p, h => by
    rcases List.mem_cons.mp h with h | h
    · subst h; exact ⟨t, List.mem_cons_self, rfl⟩
    · obtain ⟨t', h1, h2⟩ := prs_mem h
      exact ⟨t', List.mem_cons_of_mem _ h1, h2⟩
theorem prs_len : ∀ {ts : List Txt} {vs : List V}, (prsOf ts vs).length ≤ ts.length
  | [], _ => by simp [prsOf]
  | _ :: _, [] => by simp [prsOf]
  | t :: ts, v :: vs => by
    have := prs_len (ts := ts) (vs := vs)
    simp only [prsOf, List.length_cons]
    omega
theorem disp_get {f : Fm} {H : Hp} {t : Txt} {u : PV} : ∀ {ts : List Txt} {us : List PV} {ws : List V} {kvs : List (Key × V)}, ts.Nodup → Reps K f H us ws → (ts.zip us).lookup t = some u → ∃ w, valV (mergeK kvs (prsOf ts ws)) (kT t) = some w ∧ Rep K f H u w
  | [], us, ws, kvs, nd, rs, h => by simp at h
  | _ :: _, [], ws, kvs, nd, rs, h => by simp at h
  | t1 :: ts, u1 :: us, _, kvs, nd, .cons (v := v) (vs := vs) a b, h => by
    rw [List.nodup_cons] at nd
    rw [List.zip_cons_cons, List.lookup_cons] at h
    show ∃ w, valV (mergeK (putK kvs (kT t1) v) (prsOf ts vs)) (kT t) = some w ∧ _
    by_cases e : t = t1
    · subst e
      simp only [beq_self_eq_true] at h
      cases h
      refine ⟨v, ?_, a⟩
      rw [merge_out, valV_put, if_pos rfl]
      intro p hp q
      obtain ⟨t', h1, h2⟩ := prs_mem hp
      rw [h2] at q
      rw [kT_inj q] at h1
      exact nd.1 h1
    · have e2 : (t == t1) = false := by simpa using e
      simp only [e2] at h
      exact disp_get nd.2 b h
theorem tE_dsub {ts : List Txt} {es : CEs} {k : CE} {σ : L2.St} {H : Hp} {Q : VK} (nd : ts.Nodup) (h15 : ts.length ≤ 15) (h : tE K cv C W (.dsub ts es k) σ H Q) : tDGet (tDisp (trsOf K cv C W ts es)) (tE K cv C W k) σ H Q := by
  obtain ⟨f, ps, st, sl, so, p⟩ := h
  simp only [ev] at p
  cases he : evs C ps es st with
  | no => rw [he] at p; exact p.elim
  | exc c s => rw [he] at p; exact p.elim
  | ok us st1 =>
    rw [he] at p
    have p : Post K cv f H (fun cls H' => W cls none σ H') (if ts.length = us.length then (ev C ps k st1).bind fun x st2 => match x with
      | .str t => R.of ((ts.zip us).lookup t) st2
      | _ => .no
    else .no) fun x _ f' H' => ∀ v, Rep K f' H' x v → Q v H' := p
    split at p
    · rename_i hl
      intro D hD
      refine pairs_ok he hl (sl.priv hD) (so.priv hD) fun f2 H2 t2 s2 ws rs => ?_
      have hz2 : f2.z = D :: f.z := t2.zz
      have hDz : D ∈ f2.z := by rw [hz2]; exact List.mem_cons_self
      have hDl : D ∉ f2.l := (s2.zl D hDz).2
      have hD2 : H2 D = some (.dK []) := t2.keep D _ upd_same (so.priv (o := .dK []) hD |>.zl D (List.mem_cons_self)).2
      refine ⟨hD2, prsOf ts ws, rfl, Nat.le_trans prs_len h15, ?_⟩
      obtain ⟨f3, hf3⟩ : ∃ f3 : Fm, f3 = ⟨f2.l, f.z⟩ := ⟨_, rfl⟩
      have hl3 : f3.l = f2.l := by rw [hf3]
      have hz3 : f3.z = f.z := by rw [hf3]
      have hzs : ∀ a ∈ f3.z, a ∈ f2.z := fun a ha => by rw [hz2]; rw [hz3] at ha; exact List.mem_cons_of_mem _ ha
      have le : Le f H f2 (upd H2 D (.dK (mergeK [] (prsOf ts ws)))) := ((Le.priv (o := .dK []) hD).trans t2.le).updZ hD
      have tr3 : Tr f H f3 (upd H2 D (.dK (mergeK [] (prsOf ts ws)))) := ⟨by rw [hl3]; exact le.ext, hz3, le.keep, le.live⟩
      have s3 := (s2.updZ (o := .dK (mergeK [] (prsOf ts ws))) hDz).open_ hl3 hzs
      have rs3 := (rs.updZ (o := .dK (mergeK [] (prsOf ts ws))) hDz).open_ hl3 hzs
      refine ⟨f3, ps, st1, sl.tr tr3 s3, s3, (p.tr tr3).bind.imp fun x st4 f4 H4 t4 s4 p4 xv rx => ?_⟩
      cases x with
      | str t =>
        cases rx
        have p4 : Post K cv f4 H4 (fun cls H' => W cls none σ H') (R.of ((ts.zip us).lookup t) st4) fun x _ f' H' => ∀ v, Rep K f' H' x v → Q v H' := p4
        obtain ⟨u, eu, ku⟩ := p4.of
        obtain ⟨w, ew, rw⟩ := disp_get (kvs := []) nd rs3 eu
        have h4 : H4 D = some (.dK (mergeK [] (prsOf ts ws))) := t4.keep D _ upd_same (by rw [hl3]; exact hDl)
        refine ⟨D, w, rfl, ?_, ku f4 H4 (Tr.refl _ _) s4 _ (rw.tr t4)⟩
        rw [← ew]
        exact DGet.k (k := kT t) h4
      | _ => exact p4.elim
    · exact p.elim
end
section
variable {X : Cx} {c : Ctx} {cv : Nat → Value} {C : Orc} {W : WX'} {n : Nat}
theorem allSome_cons {o : Option CE} {r : List (Option CE)} {es : CEs} (h : allSome (o :: r) = some es) : ∃ x xs, o = some x ∧ allSome r = some xs ∧ es = .cons x xs := by
  cases o with
  | none => cases h
  | some x =>
    obtain ⟨xs, h1, h2⟩ := om (show (allSome r).map (.cons x) = some es from h)
    exact ⟨x, xs, rfl, h1, h2⟩
theorem pps_P (g : Good X c cv C W) (hE : PEs cv C n) {pos : Pos} : ∀ {ks : List (Option Expr)} {vs : List Expr} {ts : List Txt} {es : CEs}, strKeys ks = some ts → ts.length = vs.length → allSome (vs.map (compE n c)) = some es →
    PPs X pos ks vs (trsOf X.K cv C W ts es) ∧ ks.all (·.isSome) = true ∧ ks.length = ts.length
  | [], vs, ts, es, h1, h2, h3 => by
    cases h1
    cases vs with
    | cons v vs => cases h2
    | nil => cases h3; exact ⟨pps_nil, rfl, rfl⟩
  | some (.Constant (.str x) j p) :: ks, vs, ts, es, h1, h2, h3 => by
    obtain ⟨ts', h4, h5⟩ := om (show (strKeys ks).map (x.cps.toList :: ·) = some ts from h1)
    subst h5
    cases vs with
    | nil => cases h2
    | cons v vs =>
      rw [List.map_cons] at h3
      obtain ⟨y, ys, h6, h7, h8⟩ := allSome_cons h3
      subst h8
      obtain ⟨i1, i2, i3⟩ := pps_P g hE h4 (by simpa using h2) h7
      refine ⟨pps_cons ?_ (hE X c W v y g h6) i1, by simpa using i2, by simpa using i3⟩
      have := sE_const (X := X) (cv := cv) (C := C) (W := W) (k := .str x) (j := j) (pos := p) (v := .str x.cps.toList) rfl
      exact pe_str
  | none :: _, _, _, _, h, _, _ => by cases h
  | some (.Constant .none _ _) :: _, _, _, _, h, _, _ => by cases h
theorem sE_dsub (g : Good X c cv C W) (hE : PEs cv C n) {o i : Expr} {pos : Pos} {ts : List Txt} {vs : List Expr} {es : CEs} {y : CE} (hd : dictOf o = some (ts, vs)) (h1 : allSome (vs.map (compE n c)) = some es) (h2 : compE n c i = some y) (hi : NoSl i) :
    PE X (.Subscript o i pos) (tE X.K cv C W (.dsub ts es y)) := by
  cases o with
  | Dict ks vs' p =>
    have hd2 : (match strKeys ks with | some ts => if ts.length = vs'.length ∧ ts ≠ [] ∧ ts.length ≤ 15 ∧ ts.Nodup then some (ts, vs') else none | none => none) = some (ts, vs) := hd
    cases hk : strKeys ks with
    | none => rw [hk] at hd2; cases hd2
    | some ts' =>
      rw [hk] at hd2
      dsimp only at hd2
      split at hd2
      · rename_i hh
        cases hd2
        obtain ⟨i1, i2, i3⟩ := pps_P g hE (pos := p) hk hh.1 h1
        refine PE.of' (pe_dget ?_ (pe_disp i1 i2 (i3.trans hh.1) ?_ (by rw [i3]; exact hh.2.2.1)) (hE X c W i y g h2) hi) fun σ H Q q => tE_dsub hh.2.2.2 hh.2.2.1 q
        · have := g.un; omega
        · intro e
          rw [e] at i3
          exact hh.2.1 (List.length_eq_zero_iff.mp i3.symm)
      · cases hd2
  | _ => cases hd
end
end Wf
/-! The order of texts, plainly. -/
namespace Wf
theorem ltT_irr : ∀ a : Txt, ltT a a = false
  | [] => rfl
  | a :: r => by simp [ltT, ltT_irr r]
theorem ltT_trans : ∀ {a b c : Txt}, ltT a b = true → ltT b c = true → ltT a c = true
  | [], [], _, h, _ => by cases h
  | [], _ :: _, [], _, h => by cases h
  | [], _ :: _, _ :: _, _, _ => rfl
  | _ :: _, [], _, h, _ => by cases h
  | _ :: _, _ :: _, [], _, h => by cases h
  | a :: r, b :: t, c :: u, h1, h2 => by
    simp only [ltT, Bool.or_eq_true, Bool.and_eq_true, decide_eq_true_eq, beq_iff_eq] at h1 h2 ⊢
    rcases h1 with h1 | ⟨h1, h1'⟩ <;> rcases h2 with h2 | ⟨h2, h2'⟩
    · exact .inl (by omega)
    · exact .inl (by omega)
    · exact .inl (by omega)
    · exact .inr ⟨by omega, ltT_trans h1' h2'⟩
theorem ltT_tot : ∀ {a b : Txt}, a ≠ b → ltT a b = false → ltT b a = true
  | [], [], h, _ => absurd rfl h
  | [], _ :: _, _, h => by cases h
  | _ :: _, [], _, _ => rfl
  | a :: r, b :: t, h, h2 => by
    simp only [ltT, Bool.or_eq_true, Bool.and_eq_true, decide_eq_true_eq, beq_iff_eq, Bool.or_eq_false_iff, decide_eq_false_iff_not, Bool.and_eq_false_iff] at h2 ⊢
    obtain ⟨h3, h4⟩ := h2
    by_cases e : a = b
    · subst e
      refine .inr ⟨rfl, ltT_tot (fun z => h (by rw [z])) ?_⟩
      rcases h4 with h4 | h4
      · simp at h4
      · exact h4
    · exact .inl (by omega)
def Srt (l : List Txt) : Prop := l.Pairwise fun a b => ltT a b = true
theorem mem_insT {x y : Txt} : ∀ {l : List Txt}, y ∈ insT x l ↔ y = x ∨ y ∈ l
  | [] => by simp [insT]
  | z :: r => by
    unfold insT
    split
    · rename_i e
      subst e
      simp
    · split
      · simp
      · rw [List.mem_cons, mem_insT, List.mem_cons]
        constructor
        · rintro (h | h | h)
          · exact .inr (.inl h)
          · exact .inl h
          · exact .inr (.inr h)
        · rintro (h | h | h)
          · exact .inr (.inl h)
          · exact .inl h
          · exact .inr (.inr h)
theorem srt_insT {x : Txt} : ∀ {l : List Txt}, Srt l → Srt (insT x l)
  | [], _ => by simp [insT, Srt]
  | z :: r, h => by
    have h2 := List.pairwise_cons.mp h
    unfold insT
    split
    · exact h
    · rename_i e
      split
      · rename_i hl
        refine List.pairwise_cons.mpr ⟨fun y hy => ?_, h⟩
        rcases List.mem_cons.mp hy with q | q
        · rw [q]; exact hl
        · exact ltT_trans hl (h2.1 y q)
      · rename_i hl
        refine List.pairwise_cons.mpr ⟨fun y hy => ?_, srt_insT h2.2⟩
        rcases mem_insT.mp hy with q | q
        · rw [q]
          exact ltT_tot e (by simpa using hl)
        · exact h2.1 y q
theorem srt_sortU : ∀ ts : List Txt, Srt (sortU ts)
  | [] => List.Pairwise.nil
  | t :: ts => srt_insT (srt_sortU ts)
theorem mem_sortU {y : Txt} : ∀ {ts : List Txt}, y ∈ sortU ts ↔ y ∈ ts
  | [] => Iff.rfl
  | t :: ts => by
    show y ∈ insT t (sortU ts) ↔ _
    rw [mem_insT, mem_sortU, List.mem_cons]
theorem srt_ext : ∀ {l m : List Txt}, Srt l → Srt m → (∀ y, y ∈ l ↔ y ∈ m) → l = m
  | [], [], _, _, _ => rfl
  | [], b :: m, _, _, h => by have := (h b).mpr List.mem_cons_self; cases this
  | a :: l, [], _, _, h => by have := (h a).mp List.mem_cons_self; cases this
  | a :: l, b :: m, h1, h2, h => by
    have p1 := List.pairwise_cons.mp h1
    have p2 := List.pairwise_cons.mp h2
    have e : a = b := by
      rcases List.mem_cons.mp ((h a).mp List.mem_cons_self) with q | q
      · exact q
      · rcases List.mem_cons.mp ((h b).mpr List.mem_cons_self) with z | z
        · exact z.symm
        · have := ltT_trans (p1.1 b z) (p2.1 a q)
          rw [ltT_irr] at this
          cases this
    subst e
    congr 1
    refine srt_ext p1.2 p2.2 fun y => ?_
    have hn1 : ∀ z ∈ l, z ≠ a := fun z hz e => by
      have := p1.1 z hz
      rw [e, ltT_irr] at this
      cases this
    have hn2 : ∀ z ∈ m, z ≠ a := fun z hz e => by
      have := p2.1 z hz
      rw [e, ltT_irr] at this
      cases this
    constructor
    · intro hy
      rcases List.mem_cons.mp ((h y).mp (List.mem_cons_of_mem _ hy)) with q | q
      · exact absurd q (hn1 y hy)
      · exact q
    · intro hy
      rcases List.mem_cons.mp ((h y).mpr (List.mem_cons_of_mem _ hy)) with q | q
      · exact absurd q (hn2 y hy)
      · exact q
theorem srt_nodup {l : List Txt} (h : Srt l) : l.Nodup := List.Pairwise.imp (fun {a b} hl e => by rw [e, ltT_irr] at hl; cases hl) h
end Wf
/-! Sets of texts: set(texts), set(text), sorted(set(..)). -/
namespace Wf
open PySem PySem.Spec PyProof.Rows L2
def keyS (e : Int × Value) : Str := match e.2 with | .str k _ => k | _ => ⟨#[]⟩
def GoodS (w : World) (e : Int × Value) : Prop := ∃ k tk, e.2 = Value.str k tk ∧ e.1 = hashStr w k
/-- the set of texts at a: l its members -/
def SetS (w : World) (h : Heap) (a : Addr) (l : List Str) : Prop :=
  ∃ o es ep t, h.get? a = some o ∧ o.ExactSet ∧ o.data = .set es ep t ∧ (∀ e ∈ es.toList, GoodS w e) ∧ (es.toList.map keyS).Nodup ∧ (∀ k, k ∈ l ↔ k ∈ es.toList.map keyS) ∧
    (es.size = l.length ∧ l.Nodup) ∧ t.fits es.size = true ∧ Ris t.place.toList ∧ (w.params.followText "set-order" = true ∨ t.led = true)
section
variable {P : Program} {w : World} {h h' : Heap} {a : Addr} {l : List Str}
theorem SetS.at_ (R : SetS w h a l) (k : ∀ o, h.get? a = some o → h'.get? a = some o) : SetS w h' a l := by
  obtain ⟨o, es, ep, t, ho, r⟩ := R
  exact ⟨o, es, ep, t, k o ho, r⟩
theorem goodS_elems {m : List (Int × Value)} (g : ∀ e ∈ m, GoodS w e) : ElemsOf (strKind P w) m := fun e he => by
  obtain ⟨k, tk, h1, h2⟩ := g e he
  exact ⟨⟨k, by rw [h1]; exact Froz.is_str k tk, h2⟩, by rw [h1]; rfl⟩
theorem goodS_is {e : Int × Value} (g : GoodS w e) (k : Str) : (strKind P w).is k e.2 = true ↔ keyS e = k := by
  obtain ⟨k0, tk, h1, _⟩ := g
  unfold keyS
  rw [h1]
  constructor
  · intro q
    exact ((strKind P w).inj (.str k0 tk) k k0 q (Froz.is_str k0 tk)).symm
  · intro q
    have q : k0 = k := q
    rw [q]
    exact Froz.is_str k tk
theorem goodS_mem {m : List (Int × Value)} (g : ∀ e ∈ m, GoodS w e) (k : Str) : k ∈ m.map keyS ↔ ∃ e ∈ m, (strKind P w).is k e.2 = true := by
  rw [List.mem_map]
  constructor
  · rintro ⟨e, he, q⟩
    exact ⟨e, he, (goodS_is (g e he) k).2 q⟩
  · rintro ⟨e, he, q⟩
    exact ⟨e, he, (goodS_is (g e he) k).1 q⟩
end
def strOfV (v : Value) : Str := match v with | .str k _ => k | _ => ⟨#[]⟩
theorem strs_ofV : ∀ (l : List Value), (∀ v ∈ l, ∃ k tk, v = Value.str k tk) → StrsAre l (l.map strOfV)
  | [], _ => .nil
  | v :: l, h => by
    obtain ⟨k, tk, rfl⟩ := h v List.mem_cons_self
    exact .cons k tk (strs_ofV l fun u hu => h u (List.mem_cons_of_mem _ hu))
theorem nodup_len {α : Type} [DecidableEq α] : ∀ (l D : List α), l.Nodup → (∀ x ∈ l, x ∈ D) → l.length ≤ D.length
  | [], D, _, _ => Nat.zero_le _
  | x :: l, D, h, hs => by
    rw [List.nodup_cons] at h
    have hx := hs x List.mem_cons_self
    have ih := nodup_len l (D.erase x) h.2 fun y hy => (List.mem_erase_of_ne fun e => h.1 (by rw [← e]; exact hy)).mpr (hs y (List.mem_cons_of_mem _ hy))
    rw [List.length_erase_of_mem hx] at ih
    have : 0 < D.length := List.length_pos_of_mem hx
    rw [List.length_cons]
    omega
theorem strs_len {vs : List Value} {ks : List Str} (h : StrsAre vs ks) : vs.length = ks.length := by
  induction h with
  | nil => rfl
  | cons y t r ih => simp [ih]
theorem strs_get {vs : List Value} {ks : List Str} (h : StrsAre vs ks) : ∀ {i : Nat} {v : Value}, vs[i]? = some v → ∃ k t, ks[i]? = some k ∧ v = .str k t := by
  induction h with
  | nil => intro i v e; simp at e
  | cons y t r ih =>
    intro i v e
    cases i with
    | zero => simp at e; exact ⟨y, t, rfl, e.symm⟩
    | succ i => exact ih (by simpa using e)
section
variable {P : Program} {w : World} {A : Around} {E : Value → Shared → Prop} {s : Shared} {a : Addr} {l : List Str}
theorem setS_tail {g : Bool → Sem Unit} (hg : ∀ (b : Bool) (s₁ : Shared) (Q' : Unit → Shared → Prop), Q' () s₁ → wpAny (model P w) A (g b) Q' E s₁)
    {o : Obj} {es : Array (Int × Value)} {ep : Nat} {t : SetTable} (ho : s.heap.get? a = some o) (hex : o.ExactSet) (hd : o.data = .set es ep t)
    {es1 : Array (Int × Value)} {t2 : SetTable} (g1 : ∀ e ∈ es1.toList, GoodS w e) (nd1 : (es1.toList.map keyS).Nodup) (m1 : ∀ k, k ∈ l ↔ k ∈ es1.toList.map keyS)
    (hb1 : es1.size < scanBound) (hl1 : es1.size = l.length ∧ l.Nodup) (hf2 : t2.fits es1.size = true) (hr : Ris t2.place.toList) (hl : w.params.followText "set-order" = true ∨ t2.led = true) {wasDummy : Bool} {R : Option Bool → Shared → Prop}
    (hR : ∀ h', Heap.SameBut a s.heap h' → SetS w h' a l → R (some true) { s with heap := h' }) :
    wpAny (model P w) A (do
        storeSet a es1 t2
        if (!wasDummy && t2.tooFull) = true then do
            g (relayAll t2 es1 (SetTable.grown es1.size)).2.2
            storeSet a (relayAll t2 es1 (SetTable.grown es1.size)).1 (relayAll t2 es1 (SetTable.grown es1.size)).2.1
            pure (some true)
          else pure (some true)) R E s := by
  refine wpAny_bind (wpAny_storeSet_of ho hd ?_ (fits_of_scanBound hb1))
  have ho1 := store_at (es' := es1) (t' := t2) ho hd
  have sb1 := Heap.SameBut.update s.heap a (Obj.putSet es1 t2)
  split
  · have pm := relayAll_perm t2 es1 (SetTable.grown es1.size)
    have hf3 := relayAll_fits t2 es1 (SetTable.grown es1.size)
    have hr3 := relayAll_ris t2 es1 (SetTable.grown es1.size)
    have hl3 := relayAll_led t2 es1 (SetTable.grown es1.size)
    generalize relayAll t2 es1 (SetTable.grown es1.size) = Z at pm hf3 hr3 hl3 ⊢
    obtain ⟨es2, t3, gave⟩ := Z
    dsimp only at pm hf3 hr3 hl3 ⊢
    have hsz : es2.size = es1.size := by rw [← Array.length_toList, pm.length_eq, Array.length_toList]
    have hb2 : es2.size < scanBound := by rw [hsz]; exact hb1
    refine wpAny_bind (hg _ _ _ ?_)
    refine wpAny_bind (wpAny_storeSet_of ho1 rfl ?_ (fits_of_scanBound hb2))
    have ho2 := store_at (es' := es2) (t' := t3) ho1 rfl
    refine wpAny_pure (hR _ (sb1.trans (Heap.SameBut.update _ a _)) ?_)
    exact ⟨_, es2, _, t3, ho2, hex, rfl, fun e he => g1 e (pm.mem_iff.mp he), (pm.map keyS).nodup_iff.mpr nd1, fun k => (m1 k).trans (pm.map keyS).mem_iff.symm, ⟨by rw [hsz]; exact hl1.1, hl1.2⟩, hf3, hr3,
      hl.imp id fun z => by rw [hl3]; exact z⟩
  · exact wpAny_pure (hR _ sb1 ⟨_, es1, _, t2, ho1, hex, rfl, g1, nd1, m1, hl1, hf2, hr, hl⟩)
theorem setS_add {k : Str} {tk : Tok} {Q : Bool → Shared → Prop} (R : SetS w s.heap a l) (room : l.length + 1 < scanBound)
    (hQ : ∀ h' b, Heap.SameBut a s.heap h' → SetS w h' a (if k ∈ l then l else k :: l) → Q b { s with heap := h' }) :
    wpAny (model P w) A (setAddHashed a (.str k tk) (hashStr w k)) Q E s := by
  obtain ⟨o, es, ep, t, ho, hex, hd, g, nd, hm, ⟨hn, hnd⟩, hf, hr, hl⟩ := R
  have hkey : (strKind P w).is k (.str k tk) = true := Froz.is_str k tk
  have hsc : (Value.str k tk).scannable = true := rfl
  have hel : ElemsOf (strKind P w) es.toList := goodS_elems g
  have hb : es.size < scanBound := by omega
  unfold setAddHashed setAddHashedIn
  refine wpAny_holding (wpAny_bind (wpAny_setState_of ho hd hf ?_))
  dsimp only
  rw [byScan_of hsc hb hel]
  simp only [↓reduceIte]
  unfold setAddByScan
  refine wpAny_bind ?_
  refine wpAny_bind (wpAny_rule ?_)
  refine wpAny_bind (wpAny_setScan_of hkey ho hd hf hel ?_)
  cases hfi : List.findIdx? (fun e => (strKind P w).is k e.2) es.toList with
  | some j =>
    dsimp only
    obtain ⟨hj, pj, _⟩ := List.findIdx?_eq_some_iff_getElem.mp hfi
    have hk : k ∈ l := (hm k).2 ((goodS_mem (P := P) (w := w) g k).2 ⟨es.toList[j], List.getElem_mem hj, pj⟩)
    refine wpAny_pure (wpAny_pure ?_)
    refine hQ s.heap _ (Heap.SameBut.refl a s.heap) ?_
    rw [if_pos hk]
    exact ⟨o, es, ep, t, ho, hex, hd, g, nd, hm, ⟨hn, hnd⟩, hf, hr, hl⟩
  | none =>
    dsimp only
    have hnk : k ∉ es.toList.map keyS := fun z => by
      obtain ⟨e, he, q⟩ := (goodS_mem (P := P) (w := w) g k).1 z
      have c := List.findIdx?_eq_none_iff.mp hfi e he
      rw [q] at c
      cases c
    have hkl : k ∉ l := fun z => hnk ((hm k).mp z)
    rw [if_neg hkl] at hQ
    have hgw : ∀ (b : Bool) {s₁ : Shared} {Q' : Unit → Shared → Prop}, Q' () s₁ → wpAny (model P w) A (match b with | true => rule "set.scan.the-table-gave-way" | false => pure ()) Q' E s₁ :=
      fun b s₁ Q' q => by cases b <;> first | exact wpAny_pure q | exact wpAny_rule q
    have pm := layNew_perm t es (hashStr w k) (.str k tk)
    have hf1 := layNew_fits t es (hashStr w k) (.str k tk)
    have hr1 := layNew_ris t es (hashStr w k) (.str k tk) hr
    have hl1 := layNew_led t es (hashStr w k) (.str k tk)
    generalize layNew t es (hashStr w k) (.str k tk) = Z at pm hf1 hr1 hl1 ⊢
    obtain ⟨es1, t1, wasDummy, gave⟩ := Z
    dsimp only at pm hf1 hr1 hl1 ⊢
    rw [Array.toList_push] at pm
    have pc : es1.toList.Perm ((hashStr w k, Value.str k tk) :: es.toList) := pm.trans (List.perm_append_singleton _ _)
    have pk : (es1.toList.map keyS).Perm (k :: es.toList.map keyS) := pc.map keyS
    have g1 : ∀ e ∈ es1.toList, GoodS w e := fun e he => by
      rcases List.mem_cons.mp (pc.mem_iff.mp he) with z | z
      · rw [z]; exact ⟨k, tk, rfl, rfl⟩
      · exact g e z
    have nd1 : (es1.toList.map keyS).Nodup := pk.nodup_iff.mpr (List.nodup_cons.mpr ⟨hnk, nd⟩)
    have m1 : ∀ i, i ∈ k :: l ↔ i ∈ es1.toList.map keyS := fun i => by
      rw [List.mem_cons, hm i, pk.mem_iff, List.mem_cons]
    have hsz : es1.size = es.size + 1 := by rw [← Array.length_toList, pc.length_eq, List.length_cons, Array.length_toList]
    have hb1 : es1.size < scanBound := by omega
    have hln : es1.size = (k :: l).length ∧ (k :: l).Nodup := ⟨by rw [List.length_cons]; omega, List.nodup_cons.mpr ⟨hkl, hnd⟩⟩
    have hled : w.params.followText "set-order" = true ∨ t1.led = true := hl.imp id fun z => by rw [hl1]; exact z
    refine wpAny_bind (hgw _ ?_)
    split
    · refine wpAny_bind ?_
      rw [hashByValue_scannable 8 hsc]
      refine wpAny_pure ?_
      refine setS_tail ?_ ho hex hd g1 nd1 m1 hb1 hln ?_ ?_ ?_ ?_
      · intro b s₁ Q' q; cases b <;> first | exact wpAny_pure q | exact wpAny_rule q
      · first | (split <;> first | exact hf1 | exact SetTable.fits_plain_off hf1) | exact hf1
      · first | (split <;> exact hr1) | exact hr1
      · first | (split <;> exact hled) | exact hled
      · intro h' sb r; dsimp only; exact wpAny_pure (hQ h' _ sb r)
    · refine wpAny_bind (wpAny_pure ?_)
      simp only [↓reduceIte]
      refine setS_tail ?_ ho hex hd g1 nd1 m1 hb1 hln hf1 hr1 hled ?_
      · intro b s₁ Q' q; cases b <;> first | exact wpAny_pure q | exact wpAny_rule q
      · intro h' sb r; dsimp only; exact wpAny_pure (hQ h' _ sb r)
theorem setS_fresh {h : Heap} {a : Addr} (ho : h.get? a = some { cls := .type "set", dict := none, data := .set #[] 0 (.fresh 0 0 (!w.params.followText "set-order")) }) : SetS w h a [] :=
  ⟨_, #[], 0, _, ho, ⟨rfl, rfl, rfl⟩, rfl, (fun e he => by simp at he), (by simp), (fun k => by simp), ⟨rfl, List.nodup_nil⟩, (by rfl), List.Pairwise.nil, by
    show _ ∨ (!w.params.followText "set-order") = true
    cases w.params.followText "set-order"
    · exact .inr rfl
    · exact .inl rfl⟩
/-- sorted(set) -/
theorem sorted_setS {Q : Value → Shared → Prop} (R : SetS w s.heap a l) (hh : A.handled = none) (h64 : l.length < 64)
    (hQ : ∀ s' p (out : Array Value) (c : Nat) (ys : List Str), (∀ b o, s.heap.get? b = some o → s'.heap.get? b = some o) → s'.gens = s.gens → s'.os = s.os → s.heap.objs.size ≤ p →
      s'.heap.get? p = some (seqObj "list" out c) → StrsAre out.toList ys → ys.Perm l → sortedS ys = true → Q (.ref p) s') :
    wpAny (model P w) A (call (.builtin "sorted") [.ref a]) Q E s := by
  obtain ⟨o, es, ep, t, ho, hex, hd, g, nd, hm, ⟨hn, hnd⟩, hf, hr, hl⟩ := R
  have hb : es.size < scanBound := by have : es.size < 64 := by omega
                                      unfold scanBound; omega
  refine Calls.call_function_entry kind_sorted plain_sorted entry_sorted (args_sorted1 _) ?_
  unfold Builtin.«sorted»
  refine wpAny_bind (m := checkCount "sorted" 1 1 _) (wpAny_pure ?_)
  refine wpAny_bind (collect_set (A := A.in1) hh ⟨o, ho, hex.1, hd⟩ hf hb hr hl fun s1 vs k1 hz g1 o1 pm => ?_)
  have hvl : vs.length = es.size := by rw [pm.length_eq, List.length_map, Array.length_toList]
  have hv64 : vs.length < 64 := by omega
  have hS : StrsAre vs (vs.map strOfV) := strs_ofV vs fun v hv => by
    obtain ⟨e, he, q⟩ := List.mem_map.mp (pm.mem_iff.mp hv)
    obtain ⟨k, tk, h1, _⟩ := g e he
    exact ⟨k, tk, by rw [← q]; exact h1⟩
  have pk : (vs.map strOfV).Perm (es.toList.map keyS) := by
    have q := pm.map strOfV
    rw [List.map_map] at q
    exact q
  refine wpAny_bind (wpAny_newList ?_ (by rw [sizeLine_eq]; omega))
  have hoL : (s1.heap.push (seqObj "list" vs.toArray 0)).get? s1.heap.objs.size = some (seqObj "list" vs.toArray 0) := Heap.get?_push_size _ rfl
  refine wpAny_bind (wpAny_holding (wpAny_call_entry slot_list_sort ⟨_, hoL, rfl⟩ entry_list_sort (list_sort_treeK strKind_oneLt hoL hS.keysOf (fun v₁ v₂ rest e => keyKind_strs (by rw [← e]; exact hS)) hv64 fun st' hp hs => ⟨_, rfl, ?_⟩) (args_list_sort _)))
  obtain ⟨ys, y1, y2, y3⟩ := sorted_out_str hS hp hs
  obtain ⟨c, hc⟩ := sortedHeap_at (vs := vs) (out := (arrOf st').map (·.2)) hoL
  have pn : ys.Perm (es.toList.map keyS) := y2.trans pk
  refine wpAny_pure ⟨_, rfl, hQ _ s1.heap.objs.size _ c ys (fun b u e => ?_) g1 o1 hz hc y1 ((List.perm_ext_iff_of_nodup (pn.nodup_iff.mpr nd) hnd).mpr fun k => by rw [pn.mem_iff, ← hm k]) y3⟩
  have q := k1 b u e
  have hlt := Heap.lt_size q
  show (sortedHeap (s1.heap.push (seqObj "list" vs.toArray 0)) s1.heap.objs.size vs _).get? b = some u
  rw [sortedHeap_old (Nat.ne_of_lt hlt) (by rw [size_push']; exact Nat.lt_succ_of_lt hlt)]
  exact Heap.get?_push_of_some _ q
/-! ### set(..) -/
theorem set_update_strs {I : Addr} {fp wr : List Addr} {G : Array GenState → Array GenState → Prop} {n : Nat} {Pv : Nat → Value → Prop} {St : Nat → Shared → Prop} {R : Result → Shared → Prop}
    (W : WalksS P w A.in1 I fp wr G n Pv St) (S : Addr) (hSf : S ∉ fp) (ks : List Str) (hn : n = ks.length) (D : List Str) (hD : ∀ k ∈ ks, k ∈ D) (hfew : D.length < 1000) (hval : ∀ i v, Pv i v → ∃ k t, ks[i]? = some k ∧ v = .str k t)
    (h0 : Heap) (hS0 : h0.get? S = none) (hw0 : ∀ b ∈ wr, h0.get? b = none) :
    ∀ (k i : Nat) (s : Shared), n - i = k → i ≤ n → St i s → (∀ b o, h0.get? b = some o → s.heap.get? b = some o) → (∃ l, SetS w s.heap S l ∧ l.Nodup ∧ ∀ x, x ∈ l ↔ x ∈ ks.take i) →
      (∀ s' l, Moved (S :: wr) G s s' → SetS w s'.heap S l → l.Nodup → (∀ x, x ∈ l ↔ x ∈ ks) → (∀ b o, h0.get? b = some o → s'.heap.get? b = some o) → R (.ok (.ret .none)) s') →
      codeAny (model P w) A (.builtin "set.update.loop" ⟨[.ref S, .ref I], []⟩) R s := by
  have hSw : S ∉ wr := fun h => hSf (W.sub _ h)
  have hsub : ∀ b ∈ wr, b ∈ S :: wr := fun b hb => List.mem_cons_of_mem _ hb
  have keepM : ∀ {s s' : Shared}, Moved wr G s s' → (∀ b o, h0.get? b = some o → s.heap.get? b = some o) → ∀ b o, h0.get? b = some o → s'.heap.get? b = some o := fun hm hkp b o e =>
    hm.heap b o (fun hb => by rw [hw0 b hb] at e; cases e) (hkp b o e)
  intro k
  induction k with
  | zero =>
    intro i s hk' hi hst hkp ⟨l, hS, hl, hx⟩ hR
    have hin : i = n := by omega
    subst hin
    refine codeAny_builtin F.entry_set_update_loop ?_
    rw [Around.under_plainId F.plain_set_update_loop _]
    show wpAny _ A.in1 (pyNext (.ref I) >>= _) _ _ s
    refine wpAny_bind (W.done s _ _ hst fun s' hm => ?_)
    show wpAny _ A.in1 (ret Value.none) _ _ s'
    have hkp' := keepM hm hkp
    rw [hn, List.take_length] at hx
    exact wpAny_pure (hR s' l (hm.mono hsub) (hS.at_ fun o e => hm.heap S o hSw e) hl hx hkp')
  | succ k ih =>
    intro i s hk' hi hst hkp ⟨l, hS, hl, hx⟩ hR
    have hlt : i < n := by omega
    refine codeAny_builtin F.entry_set_update_loop ?_
    rw [Around.under_plainId F.plain_set_update_loop _]
    show wpAny _ A.in1 (pyNext (.ref I) >>= _) _ _ s
    refine wpAny_bind (W.item i s _ _ hlt hst fun v s' hP hst' hm => ?_)
    obtain ⟨p, tk, hp, rfl⟩ := hval i v hP
    have hkp' := keepM hm hkp
    have hS' : SetS w s'.heap S l := hS.at_ fun o e => hm.heap S o hSw e
    show wpAny _ A.in1 (holding [Value.str p tk] (setAdd S (.str p tk)) >>= _) _ _ s'
    refine wpAny_bind (wpAny_holding ?_)
    unfold setAdd
    refine wpAny_holding ?_
    refine wpAny_bind ((strKind P w).pyHash (Froz.is_str p tk) ?_)
    have hll : l.length ≤ D.length := nodup_len l D hl fun x hx1 => hD x (List.mem_of_mem_take ((hx x).mp hx1))
    refine setS_add (s := { s' with toks := s'.toks + 1 }) hS' (by unfold scanBound; omega) fun h' b hsb hS2 => ?_
    have hkp2 : ∀ b o, h0.get? b = some o → h'.get? b = some o := fun b o e => (hsb.2 b (fun z => by rw [z, hS0] at e; cases e)).trans (hkp' b o e)
    have hx2 : ∀ x, x ∈ (if p ∈ l then l else p :: l) ↔ x ∈ ks.take (i + 1) := fun x => by
      rw [take_next hp, List.mem_append, List.mem_singleton, ← hx x]
      split
      · rename_i hpl
        exact ⟨.inl, fun z => z.elim id fun e => e ▸ hpl⟩
      · rw [List.mem_cons]
        exact Or.comm
    have hnd2 : (if p ∈ l then l else p :: l).Nodup := by
      split
      · exact hl
      · rename_i hpl
        exact List.nodup_cons.mpr ⟨hpl, hl⟩
    refine wpAny_pure ⟨plainId_quiet F.plain_set_update_loop _, ih (i + 1) _ (by omega) hlt (W.frame _ s' _ _ hst' (Nat.le_add_right _ _) fun b hb o e => ?_) hkp2 ⟨_, hS2, hnd2, hx2⟩ fun s'' l2 hm'' hS'' hl'' hx'' hkp'' => ?_⟩
    · rw [hsb.2 b (fun h : b = S => hSf (by rw [← h]; exact hb))]; exact e
    · refine hR s'' l2 (Moved.trans W.gtrans ((hm.mono hsub).then_heap (Nat.le_add_right _ _) fun b o hb e => ?_) hm'') hS'' hl'' hx'' hkp''
      rw [hsb.2 b (fun h : b = S => hb (by rw [h]; exact List.mem_cons_self))]; exact e
/-- set(x): whatever is walked, its items are texts -/
theorem call_set_walk {x : Value} (ks : List Str) {Q : Value → Shared → Prop}
    (hinit : ∀ (A' : Around) (E' : Value → Shared → Prop) (s' : Shared) (S : Addr) (R : PySem.Fin → Shared → Prop), A'.handled = A.handled → S = s.heap.objs.size → (∀ b o, s.heap.get? b = some o → s'.heap.get? b = some o) → s'.heap.objs.size = S + 1 → s'.heap.get? S = some { cls := .type "set", dict := none, data := .set #[] 0 (.fresh 0 0 (!w.params.followText "set-order")) } →
      (∀ s2 l, SetS w s2.heap S l → l.Nodup → (∀ y, y ∈ l ↔ y ∈ ks) → (∀ b o, s.heap.get? b = some o → s2.heap.get? b = some o) → s2.gens = s'.gens → s2.drawn = s'.drawn → s2.os = s'.os → wpAny (model P w) A' (ret Value.none) R E' s2) →
      wpAny (model P w) A' (Builtin.«set.__init__» ⟨[.ref S, x], []⟩) R E' s')
    (h : ∀ (h' : Heap) (tk : Nat) l, SetS w h' s.heap.objs.size l → l.Nodup → (∀ y, y ∈ l ↔ y ∈ ks) → (∀ b o, s.heap.get? b = some o → h'.get? b = some o) → Q (.ref s.heap.objs.size) { s with heap := h', toks := tk }) :
    wpAny (model P w) A (call (.type "set") [x]) Q E s := by
  obtain ⟨c, tl, hmro⟩ := F.called_set.mro
  have hmade := F.called_set.made
  have hsub := F.called_set.sub
  refine wpAny_call (codeAny_of_tree ?_)
  show wpAny _ _ (callAny (.type "set") _) _ _ _
  refine wpAny_pure ⟨Code.quiet_builtin _ (by decide +kernel), codeAny_builtin F.entry_type_call ?_⟩
  rw [Around.under_plain (weight_type_call_type "set" [x] []) rfl]
  have h1 := F.called_set.notType
  have h2 := F.called_set.canCreate
  have hct := F.typeCall_set_1 x
  repeat (any_goals (first | assumption | wp_step))

  refine codeAny_mono (code_set_led1 x (E := E) (Q₁ := fun obj s₁ => obj = .ref s.heap.objs.size ∧ s₁ = { s with heap := s.heap.push { cls := .type "set", dict := none, data := .set #[] 0 (.fresh 0 0 (!w.params.followText "set-order")) } }) ⟨rfl, rfl⟩) fun r s₁ hr => ?_
  cases r with
  | error e => exact hr
  | ok fl =>
    cases fl with
    | ret obj =>
      obtain ⟨rfl, rfl⟩ := hr
      have hS : (s.heap.push { cls := .type "set", dict := none, data := .set #[] 0 (.fresh 0 0 (!w.params.followText "set-order")) }).get? s.heap.objs.size = some { cls := .type "set", dict := none, data := .set #[] 0 (.fresh 0 0 (!w.params.followText "set-order")) } := Heap.get?_push_size _ rfl
      have hT : Shared.TypeIs { s with heap := s.heap.push { cls := .type "set", dict := none, data := .set #[] 0 (.fresh 0 0 (!w.params.followText "set-order")) } } (.ref s.heap.objs.size) "set" := ⟨_, hS, rfl⟩
      have hli := F.called_set.init.lookup
      have hbi := F.called_set.init.bind (.ref s.heap.objs.size)
      repeat (any_goals (first | assumption | wp_step))

      refine codeAny_mono (codeAny_call_builtin (R := wants (fun r s₂ => r = .none ∧ ∃ h' tk l, s₂ = { s with heap := h', toks := tk } ∧ SetS w h' s.heap.objs.size l ∧ l.Nodup ∧ (∀ y, y ∈ l ↔ y ∈ ks) ∧
          (∀ b o, s.heap.get? b = some o → h'.get? b = some o)) E) F.called_set.init.plain F.entry_set_init (check_set_init_1 hT ?_)) fun r₂ s₂ hr₂ => ?_
      · refine hinit _ _ { s with heap := s.heap.push { cls := .type "set", dict := none, data := .set #[] 0 (.fresh 0 0 (!w.params.followText "set-order")) } } _ _ ?_ rfl (fun b o e => Heap.get?_push_of_some _ e) (Heap.size_push ..) hS fun s2 l hl1 hl2 hl3 hl4 hl5 hl6 hl7 => ?_
        · simp
        · obtain ⟨h', g2, d', tk', os'⟩ := s2
          have eg : g2 = s.gens := hl5
          have ed : d' = s.drawn := hl6
          have eo : os' = s.os := hl7
          subst eg; subst ed; subst eo
          exact wpAny_pure ⟨rfl, h', tk', l, rfl, hl1, hl2, hl3, hl4⟩
      · cases r₂ with
        | error e => exact hr₂
        | ok fl₂ =>
          cases fl₂ with
          | ret r =>
            obtain ⟨rfl, h', tk, l, rfl, hS', g1, g2, hk'⟩ := hr₂
            repeat (any_goals (first | assumption | wp_step))
            exact h _ _ _ hS' g1 g2 hk'
          | _ => exact hr₂.elim
    | _ => exact hr.elim
/-- set(list of texts) -/
theorem call_set_strs {l : Addr} {items : Array Value} (ks : List Str) {Q : Value → Shared → Prop} (hh : A.handled = none) (hl : s.heap.IsList l items) (hit : StrsAre items.toList ks) (D : List Str) (hD : ∀ k ∈ ks, k ∈ D) (hfew : D.length < 1000)
    (h : ∀ (h' : Heap) (tk : Nat) m, SetS w h' s.heap.objs.size m → m.Nodup → (∀ y, y ∈ m ↔ y ∈ ks) → (∀ b o, s.heap.get? b = some o → h'.get? b = some o) → Q (.ref s.heap.objs.size) { s with heap := h', toks := tk }) :
    wpAny (model P w) A (call (.type "set") [.ref l]) Q E s := by
  refine call_set_walk ks (fun A' E' s' S R hA hS hk hsz hfr hR => ?_) h
  subst hS
  have hisz : items.size = ks.length := by
    rw [← Array.length_toList]
    exact strs_len hit
  obtain ⟨ol, hol, hcl, nl, hdl⟩ := hl
  obtain ⟨ocls, odict, odata, oslots⟩ := ol
  simp only at hcl hdl
  subst hcl; subst hdl
  have hol' : s'.heap.get? l = some { cls := .type "list", dict := odict, data := .seq items nl, slots := oslots } := hk _ _ hol
  have hsls := F.sub_list_set
  have hslf := F.sub_list_frozenset
  have hne : (Value.type "list" == Value.type "dict") = false := by decide
  have hl1 : s'.heap.IsList l items := ⟨_, hol', rfl, nl, rfl⟩
  unfold Builtin.«set.__init__» noKeywords Builtin.Frozenset.updateFrom
  generalize hPI : pyIter = PI
  wp_walk
  subst hPI
  refine wpAny_pyIter_list hl1 ?_
  refine wpAny_bind (wpAny_runValue ?_)
  have hlS : l < s.heap.objs.size := Heap.lt_size hol
  have hh3 : A'.in1.handled = none := by simp [hA, hh]
  have hneI : l ≠ s'.heap.objs.size := by rw [hsz]; exact Nat.ne_of_lt (Nat.lt_succ_of_lt hlS)
  have hSf : s.heap.objs.size ∉ [s'.heap.objs.size, l] := by
    rw [hsz]; simp only [List.mem_cons, List.mem_singleton, List.not_mem_nil, or_false, not_or]
    exact ⟨Nat.ne_of_lt (Nat.lt_succ_self _), Nat.ne_of_gt hlS⟩
  have hval : ∀ (i : Nat) (v : Value), items[i]? = some v → ∃ k t, ks[i]? = some k ∧ v = .str k t := fun i v hv => strs_get hit (by rw [Array.getElem?_toList]; exact hv)
  have none_of : ∀ b, s.heap.objs.size ≤ b → s.heap.get? b = none := fun b hb => by
    cases q : s.heap.get? b with
    | none => rfl
    | some o => exact absurd (Nat.lt_of_lt_of_le (Heap.lt_size q) hb) (Nat.lt_irrefl _)
  refine set_update_strs ((Walks.list hh3 _ l hneI items).toS) s.heap.objs.size
    hSf ks hisz D hD hfew hval s.heap (none_of _ (Nat.le_refl _)) (fun b hb => none_of b (by
      rw [List.mem_singleton.mp hb, hsz]
      exact Nat.le_succ _)) (items.size - 0) 0 _ (by omega) (Nat.zero_le _)
    ⟨⟨_, Heap.get?_push_size _ rfl, rfl, rfl⟩, (hl1.push _)⟩ (fun b o e => Heap.get?_push_of_some _ (hk b o e)) ⟨[], (setS_fresh hfr).at_ fun o e => Heap.get?_push_of_some _ e, List.nodup_nil, by simp⟩ fun s2 m hm hS2 hl2 hx2 hk2 => ?_
  show wpAny _ _ _ _ _ _
  refine wpAny_pure ?_
  exact hR s2 m hS2 hl2 hx2 hk2 hm.gens hm.drawn hm.os
/-- set(text) -/
theorem call_set_text {y : Str} {t : Tok} {Q : Value → Shared → Prop} (hh : A.handled = none) (D : List Str) (hD : ∀ k ∈ signs y, k ∈ D) (hfew : D.length < 1000)
    (h : ∀ (h' : Heap) (tk : Nat) m, SetS w h' s.heap.objs.size m → m.Nodup → (∀ x, x ∈ m ↔ x ∈ signs y) → (∀ b o, s.heap.get? b = some o → h'.get? b = some o) → Q (.ref s.heap.objs.size) { s with heap := h', toks := tk }) :
    wpAny (model P w) A (call (.type "set") [.str y t]) Q E s := by
  refine call_set_walk (signs y) (fun A' E' s' S R hA hS hk hsz hfr hR => ?_) h
  subst hS
  have hisz : y.cps.size = (signs y).length := by simp [signs]
  have hsls := F.sub_str_set
  have hslf := F.sub_str_frozenset
  have hne : (Value.type "str" == Value.type "dict") = false := by decide
  unfold Builtin.«set.__init__» noKeywords Builtin.Frozenset.updateFrom
  generalize hPI : pyIter = PI
  wp_walk
  subst hPI
  refine wpAny_pyIter_str fun o St W hst => ?_
  refine wpAny_bind (wpAny_runValue ?_)
  have hh3 : A'.in1.handled = none := by simp [hA, hh]
  have hSf : s.heap.objs.size ∉ [s'.heap.objs.size] := by
    rw [hsz]; simp only [List.mem_singleton]
    exact Nat.ne_of_lt (Nat.lt_succ_self _)
  have hval : ∀ (i : Nat) (v : Value), SignAt y i v → ∃ k t, (signs y)[i]? = some k ∧ v = .str k t := fun i v hv => by
    obtain ⟨c, u, h1, h2⟩ := hv
    exact ⟨_, u, signs_get h1, h2⟩
  have none_of : ∀ b, s.heap.objs.size ≤ b → s.heap.get? b = none := fun b hb => by
    cases q : s.heap.get? b with
    | none => rfl
    | some o => exact absurd (Nat.lt_of_lt_of_le (Heap.lt_size q) hb) (Nat.lt_irrefl _)
  refine set_update_strs ((W _ hh3).toS) s.heap.objs.size
    hSf (signs y) hisz D hD hfew hval s.heap (none_of _ (Nat.le_refl _)) (fun b hb => none_of b (by
      rw [List.mem_singleton.mp hb, hsz]
      exact Nat.le_succ _)) (y.cps.size - 0) 0 _ (by omega) (Nat.zero_le _)
    hst (fun b o e => Heap.get?_push_of_some _ (hk b o e)) ⟨[], (setS_fresh hfr).at_ fun o e => Heap.get?_push_of_some _ e, List.nodup_nil, by simp⟩ fun s2 m hm hS2 hl2 hx2 hk2 => ?_
  show wpAny _ _ _ _ _ _
  refine wpAny_pure ?_
  exact hR s2 m hS2 hl2 hx2 hk2 hm.gens hm.drawn hm.os
end
/-! ### over the layer -/
def SetSO (w : World) (a : Addr) (l : List Str) : HO := .ext fun h => SetS w h a l
theorem setSO_new {P : Program} {w : World} {H : Hp} {h : Heap} {a : Addr} {l : List Str} (R : SetS w h a l) : ObjOk P w H h a (SetSO w a l) := by
  have ⟨o, es, ep, t, ho, _⟩ := R
  exact ⟨R, ⟨o, ho⟩, fun h1 h2 p k => SetS.at_ p k⟩
section
variable {X : Cx}
def rSetS (K : PySem.W.Frag) (w : World) : List V → Hp → VK → Prop := fun xs H Q => ∃ (ks D : List Str), ((∃ l, xs = [V.ref l] ∧ SqL K H l (ks.map V.str)) ∨ ∃ y, xs = [V.str y] ∧ ks = signs y) ∧ (∀ k ∈ ks, k ∈ D) ∧ D.length < 64 ∧
  ∀ a m, H a = none → m.Nodup → (∀ x, x ∈ m ↔ x ∈ ks) → m.length < 64 → Q (.ref a) (upd H a (SetSO w a m))
theorem cr_setS (hc : X.calm = true) : CallR X (.type "set") (rSetS X.K X.w) := by
  intro pins s σ H xs us Q I r h
  obtain ⟨ks, D, hx, hD, hf, q⟩ := h
  have hn : H s.heap.objs.size = none := I.hok.fresh (Nat.le_refl _)
  have fin : ∀ (h' : Heap) (tk : Nat) m, SetS X.w h' s.heap.objs.size m → m.Nodup → (∀ y, y ∈ m ↔ y ∈ ks) → (∀ b o, s.heap.get? b = some o → h'.get? b = some o) → EP X pins σ Q (.ref s.heap.objs.size) { s with heap := h', toks := tk } := fun h' tk m R nd hm k => by
    have hl : m.length ≤ D.length := nodup_len m D nd fun x hx => hD x ((hm x).mp hx)
    exact ⟨.ref s.heap.objs.size, upd H s.heap.objs.size (SetSO X.w s.heap.objs.size m), I.laid (t' := tk) k (Nat.le_refl _) (setSO_new R), rfl, q _ m hn nd hm (by omega)⟩
  rcases hx with ⟨l, rfl, hl⟩ | ⟨y, rfl, rfl⟩
  · rw [Vals.ref1 r]
    obtain ⟨its, rv, pl, hz⟩ := I.list hl
    exact call_set_strs (P := X.prog) (w := X.w) ks (I.ok.hd hc) pl.isList (by simpa using rv.strs) D hD (by omega) fin
  · cases r with
    | cons h1 h2 =>
      cases h2
      obtain ⟨t, rfl⟩ := h1
      exact call_set_text (P := X.prog) (w := X.w) (I.ok.hd hc) D hD (by omega) fin
def rSortS (w : World) : List V → Hp → VK → Prop := fun vs H Q => ∃ (a : Addr) (m : List Str), vs = [V.ref a] ∧ H a = some (SetSO w a m) ∧ m.length < 64 ∧
  ∀ (ys : List Str) (p : Addr), ys.Perm m → sortedS ys = true → H p = none → Q (.ref p) (upd H p (.lst (ys.map V.str)))
theorem cr_sortS (hc : X.calm = true) : CallR X (.builtin "sorted") (rSortS X.w) := by
  intro pins s σ H vs us Q I r h
  obtain ⟨a, m, rfl, ha, hf, q⟩ := h
  have R : SetS X.w s.heap a m := (I.hok a _ ha).1
  rw [Vals.ref1 r]
  refine sorted_setS R (I.ok.hd hc) hf fun s' p out c ys k g o hp hg hout pm pw => ?_
  have hfew : ys.length < 64 := by rw [pm.length_eq]; exact hf
  have hlen : (ys.map V.str).length ≤ sizeLine := by rw [List.length_map, sizeLine_eq]; omega
  have hn : H p = none := I.hok.fresh hp
  have hv : Vals (ys.map V.str) out.toList := vals_of_strs hout
  have J : Inv X pins σ (upd H p (.lst (ys.map V.str))) { s with heap := s'.heap, gens := s'.gens, drawn := s'.drawn, toks := s'.toks } :=
    I.call (ch := []) (Un.laid k hp hn) (I.hok.laid k hp ⟨hlen, out.toList, c, hv, hg⟩) (by rw [g]; exact I.bare) (fun _ z => nomatch z)
  have e : s' = { s with heap := s'.heap, gens := s'.gens, drawn := s'.drawn, toks := s'.toks } := by
    cases s'
    cases s
    cases o
    rfl
  rw [e]
  exact ⟨.ref p, _, J, rfl, q ys p pm pw hn⟩
end
end Wf
/-! sorted(set(..)) in the core. -/
namespace Wf
open PySem PySem.Spec PyProof.Rows L2
theorem ltT_eq : ∀ a b : Txt, ltT a b = ltCps a b
  | [], [] => rfl
  | [], _ :: _ => rfl
  | _ :: _, [] => rfl
  | a :: r, b :: t => by simp only [ltT, ltCps, ltT_eq r t]
/-- the kit's texts and ours -/
def toS (x : Txt) : Str := ⟨x.toArray⟩
def ofS (x : Str) : Txt := x.cps.toList
theorem ofS_toS (x : Txt) : ofS (toS x) = x := rfl
theorem toS_ofS (x : Str) : toS (ofS x) = x := by cases x; simp [toS, ofS]
theorem rising_srt : ∀ (ys : List Str) (p : Str), risingS p ys = true → (p :: ys).Nodup → Srt ((p :: ys).map ofS) 
  | [], p, _, _ => by simp [Srt]
  | x :: r, p, h, nd => by
    have h2 : (!ltCps x.cps.toList p.cps.toList) = true ∧ risingS x r = true := by
      have h3 : (!ltCps x.cps.toList p.cps.toList && risingS x r) = true := h
      simpa using h3
    have nd2 := List.nodup_cons.mp nd
    have ih := rising_srt r x h2.2 nd2.2
    have hpx : ltT (ofS p) (ofS x) = true := by
      refine ltT_tot (a := ofS x) (b := ofS p) (fun e => nd2.1 ?_) ?_
      · have : x = p := by rw [← toS_ofS x, ← toS_ofS p, e]
        rw [this]
        exact List.mem_cons_self
      · rw [ltT_eq]
        have := h2.1
        unfold ofS
        simpa using this
    rw [List.map_cons]
    refine List.pairwise_cons.mpr ⟨fun y hy => ?_, ih⟩
    rw [List.map_cons] at hy
    rcases List.mem_cons.mp hy with q | q
    · rw [q]; exact hpx
    · exact ltT_trans hpx ((List.pairwise_cons.mp ih).1 y q)
theorem sorted_is {ys m : List Str} {ts : List Txt} (hp : ys.Perm m) (hs : sortedS ys = true) (nd : m.Nodup) (hm : ∀ x, x ∈ m ↔ x ∈ ts.map toS) : ys = (sortU ts).map toS := by
  have ndy : ys.Nodup := hp.nodup_iff.mpr nd
  have s1 : Srt (ys.map ofS) := by
    cases ys with
    | nil => exact List.Pairwise.nil
    | cons y r => exact rising_srt r y hs ndy
  have e : ys.map ofS = sortU ts := srt_ext s1 (srt_sortU ts) fun y => by
    rw [mem_sortU, List.mem_map]
    constructor
    · rintro ⟨x, hx, rfl⟩
      have := (hm x).mp (hp.mem_iff.mp hx)
      obtain ⟨t, ht, e⟩ := List.mem_map.mp this
      rw [← e, ofS_toS]
      exact ht
    · intro hy
      exact ⟨toS y, hp.mem_iff.mpr ((hm (toS y)).mpr (List.mem_map.mpr ⟨y, hy, rfl⟩)), rfl⟩
  rw [← e, List.map_map]
  have : (toS ∘ ofS) = id := funext toS_ofS
  rw [this, List.map_id]
section
variable {K : PySem.W.Frag} {cv : Nat → Value} {C : Orc} {W : WX'} {σ : L2.St} {H : Hp} {Q : VK}
theorem strs_reps {f : Fm} : ∀ {xs : List PV} {ts : List Txt} {vs : List V}, strsOf xs = some ts → Reps K f H xs vs → vs = (ts.map toS).map V.str
  | [], ts, _, h, .nil => by cases h; rfl
  | x :: xs, ts, _, h, .cons a b => by
    cases x with
    | str t =>
      obtain ⟨ts', h1, rfl⟩ := om (show (strsOf xs).map (t :: ·) = some ts from h)
      cases a
      rw [strs_reps h1 b]
      rfl
    | _ => cases h
theorem reps_strs {f : Fm} : ∀ ts : List Txt, Reps K f H (ts.map .str) ((ts.map toS).map V.str)
  | [] => .nil
  | t :: ts => .cons (.str t) (reps_strs ts)
theorem tE_srt {w : World} {a : CE} (h : tE K cv C W (.srt a) σ H Q) : tCB (rSortS w) (tCons (tCB (rSetS K w) (tCons (tE K cv C W a) tNil)) tNil) σ H Q := by
  obtain ⟨f, ps, st, sl, so, p⟩ := h
  simp only [ev] at p
  refine ⟨f, ps, st, sl, so, p.bind.imp fun x st1 f1 H1 t1 s1 p1 xv rx => ?_⟩
  obtain ⟨z, ez, kz⟩ := p1.of
  unfold srtP at ez
  split at ez
  · rename_i ts hts
    split at ez
    · rename_i hl
      cases ez
      have main : (∃ l, [xv] = [V.ref l] ∧ SqL K H1 l ((ts.map toS).map V.str)) ∨ (∃ y, [xv] = [V.str y] ∧ ts.map toS = signs y) := by
        unfold textsIn at hts
        split at hts
        · rename_i t
          cases hts
          cases rx
          refine .inr ⟨_, rfl, ?_⟩
          simp [signs, toS, List.map_map, Function.comp_def]
        · split at hts
          · rename_i xs hxs
            obtain ⟨q, vs, e1, hq, rs⟩ := listOf_rd s1 rx hxs
            subst e1
            refine .inl ⟨q, rfl, ?_⟩
            rw [← strs_reps hts rs]
            exact .inl hq
          · cases hts
      refine ⟨ts.map toS, (sortU ts).map toS, main, fun k hk => ?_, by rw [List.length_map]; exact hl, fun b m hb nd hm hf => ?_⟩
      · obtain ⟨t, ht, rfl⟩ := List.mem_map.mp hk
        exact List.mem_map.mpr ⟨t, mem_sortU.mpr ht, rfl⟩
      · refine ⟨b, m, rfl, upd_same, hf, fun ys q hp hs hq => ?_⟩
        have e := sorted_is hp hs nd hm
        subst e
        have t2 : Tr f1 H1 f1 (upd H1 b (SetSO w b m)) := Tr.new hb
        have s2 : StOk K f1 (upd H1 b (SetSO w b m)) st1 := s1.new hb
        exact kz f1 _ (t2.trans (Tr.new hq)) (s2.new hq) _ (Rep.newLst s2 hq (reps_strs _))
    · cases ez
  · cases ez
end
section
variable {X : Cx} {c : Ctx} {cv : Nat → Value} {C : Orc} {W : WX'} {n : Nat}
theorem sE_srt (g : Good X c cv C W) (hE : PEs cv C n) {p p2 pos pos2 : Pos} {b : Expr} {x : CE} (hgl : c.isGl "sorted" = true) (hgs : c.isGl "set" = true) (h : compE n c b = some x) :
    PE X (.Call (.Name "sorted" p) [.Call (.Name "set" p2) [b] [] pos2] [] pos) (tE X.K cv C W (.srt x)) :=
  PE.of' (pe_callB (cr_sortS g.calm) (g.gl hgl) (g.bi "sorted" (by decide +kernel)) (by decide +kernel) (pa_cons (pe_callTy (cr_setS g.calm) (g.gl hgs) (g.bi "set" (by decide +kernel)) (by decide +kernel) (pa_cons (hE X c W b x g h) pa_nil (star_ne h [] X.env)) (by decide) (by decide) (star_ne h [] X.env) rfl) pa_nil rfl)) fun σ H Q q => tE_srt q
end
end Wf
namespace Wf
open PySem PySem.Spec PyProof.Rows L2
section
variable {cv : Nat → Value} {C : Orc}
theorem chain_two {n : Nat} {c : Ctx} {a : Expr} {as : List Expr} {xs : CEs} (h : compEs n c (a :: as) = some xs) : (∃ m x, compE m c a = some x) ∧ ∃ m x, compEs m c as = some x := by
  cases n with
  | zero => cases h
  | succ n =>
    have h2 : (match compE n c a, compEs n c as with | some x, some y => some (CEs.cons x y) | _, _ => none) = some xs := h
    cases q : compE n c a with
    | none => rw [q] at h2; cases h2
    | some x =>
      cases q2 : compEs n c as with
      | none => rw [q, q2] at h2; cases h2
      | some y => exact ⟨⟨n, x, q⟩, ⟨n, y, q2⟩⟩
theorem sE (n : Nat) (hE : PEs cv C n) (hT : PTsn cv C n) (hA : PAs cv C n) (hO : POs cv C n) (hI : PIs cv C n) (hC : PCs cv C n) : PEs cv C (n + 1) := by
  intro X c W e x g h
  cases e with
  | Constant k j pos =>
    simp only [compE] at h
    obtain ⟨v, h1, rfl⟩ := om h
    exact sE_const h1
  | Name y pos =>
    simp only [compE] at h
    split at h
    · cases h
    · rename_i hd
      have hd1 : (y == ("__debug__" : Str)) = false := by
        cases q : (y == ("__debug__" : Str)) with
        | false => rfl
        | true => exact absurd (.inl q) hd
      have hd2 : (y == ("__classdict__" : Str)) = false := by
        cases q : (y == ("__classdict__" : Str)) with
        | false => rfl
        | true => exact absurd (.inr q) hd
      split at h
      · rename_i i hi
        cases h
        obtain ⟨h1, h2⟩ := g.slot hi
        exact PE.of' (pe_var h1 h2 hd1 hd2) fun σ H Q q => tE_var q
      · split at h
        · rename_i hg
          obtain ⟨v, h1, rfl⟩ := om h
          obtain ⟨u, w, h2, h3, h4⟩ := g.gc y v hg.2 h1
          exact PE.of' (pe_glob (g.gl hg.1) h2 h3 hd1) fun σ H Q q => tE_cst (fun f H => h4 f H) q
        · cases h
  | Tuple es k pos =>
    simp only [compE] at h
    obtain ⟨xs, h1, rfl⟩ := om h
    exact PE.of' (pe_tup (hA X c W es xs g h1)) fun σ H Q q => tE_tup q
  | List es pos =>
    simp only [compE] at h
    obtain ⟨xs, h1, rfl⟩ := om h
    exact PE.of' (pe_lst (hA X c W es xs g h1)) fun σ H Q q => tE_lst q
  | BinOp a op b pos =>
    simp only [compE] at h
    split at h
    · rename_i xa o xb h1 h2 h3
      cases h
      exact PE.of' (pe_op (op_binP h2) (hE X c W a xa g h1) (hE X c W b xb g h3)) fun σ H Q q => tE_op q
    · cases h
  | UnaryOp op a pos =>
    cases op with
    | Not =>
      simp only [compE] at h
      obtain ⟨xa, h1, rfl⟩ := om h
      exact PE.of' (pe_not (hE X c W a xa g h1)) fun σ H Q q => tE_not q
    | USub =>
      simp only [compE] at h
      obtain ⟨xa, h1, rfl⟩ := om h
      exact PE.of' (pe_un un_neg (hE X c W a xa g h1)) fun σ H Q q => tE_neg q
    | _ => simp only [compE] at h; cases h
  | BoolOp op vs pos =>
    cases vs with
    | nil => simp only [compE] at h; cases h
    | cons a r =>
      cases r with
      | nil =>
        simp only [compE] at h
        exact pe_one (hE X c W a x g h)
      | cons b r =>
        simp only [compE] at h
        split at h
        · rename_i xa xb h1 h2
          cases h
          cases op with
          | And => exact PE.of' (pe_and (hE X c W a xa g h1) (hE X c W _ xb g h2)) fun σ H Q q => tE_and q
          | Or => exact PE.of' (pe_or (hE X c W a xa g h1) (hE X c W _ xb g h2)) fun σ H Q q => tE_or q
        · cases h
  | Compare a ops bs pos =>
    simp only [compE] at h
    split at h
    · rename_i op b
      split at h
      · cases h
      · rename_i hm
        split at h
        · rename_i xa o xb h1 h2 h3
          cases h
          exact PE.of' (pe_cmpR (op_cmpP g.un h2) (hE X c W a xa g h1) (hE X c W b xb g h3) (by simpa using hm)) fun σ H Q q => tE_op q
        · cases h
    · rename_i op op2 b d
      split at h
      · cases h
      · rename_i hm
        split at h
        · rename_i xa o xb o2 xd h1 h2 h3 h4 h5
          cases h
          exact PE.of' (pe_chain (op_cmpP g.un h2) (op_cmpP g.un h4) (hE X c W a xa g h1) (hE X c W b xb g h3) (hE X c W d xd g h5) (by simpa using hm)) fun σ H Q q => tE_chain q
        · cases h
    · cases h
  | IfExp t a b pos =>
    simp only [compE] at h
    split at h
    · rename_i ht
      split at h
      · rename_i xt xa xb h1 h2 h3
        cases h
        exact PE.of' (pe_ifExp (hT X c W t xt g h1 ht) (hE X c W a xa g h2) (hE X c W b xb g h3)) fun σ H Q q => tE_ite q
      · cases h
    · cases h
  | Subscript o i pos =>
    have plain : (∀ l u s p, i ≠ .Slice l u s p) → (∃ xo xi, compE n c o = some xo ∧ compE n c i = some xi ∧ x = .ix xo xi) → PE X (.Subscript o i pos) (tE X.K cv C W x) := fun hi q => by
      obtain ⟨xo, xi, h1, h2, rfl⟩ := q
      · refine PE.of' (pe_ix ix_P (hE X c W o xo g h1) (hE X c W i xi g h2) ?_) fun σ H Q q => tE_ix q
        intro ov iv
        cases i <;> first | rfl | (rename_i l u s p; exact absurd rfl (hi l u s p))
    cases i with
    | Slice lo hi st p2 =>
      cases st with
      | none =>
        simp only [compE] at h
        split at h
        · rename_i xo xl xh h1 h2 h3
          cases h
          exact PE.of' (pe_slice sl_P (hE X c W o xo g h1) (hO X c W lo xl g h2) (hO X c W hi xh g h3)) fun σ H Q q => tE_sl q
        · cases h
      | some st => simp only [compE] at h; cases h
    | _ =>
      simp only [compE] at h
      split at h
      · rename_i ts vs hd
        split at h
        · rename_i us y h1 h2
          cases h
          exact sE_dsub g hE hd h1 h2 (by intro ov iv; rfl)
        · cases h
      · refine plain (by intro l u s p q; cases q) ?_
        split at h
        · rename_i xo xi h1 h2
          cases h
          exact ⟨xo, xi, h1, h2, rfl⟩
        · cases h
  | Call f as ks pos =>
    cases ks with
    | cons k ks =>
      cases f with
      | Name y p => cases as <;> (simp only [compE] at h; cases h)
      | Attribute o m apos => cases as with
        | nil => simp only [compE] at h; cases h
        | cons a r => cases r <;> (simp only [compE] at h; cases h)
      | _ => simp only [compE] at h; cases h
    | nil =>
      cases f with
      | Name y p =>
        cases as with
        | nil => simp only [compE] at h; cases h
        | cons a r =>
          simp only [compE] at h
          split at h
          · rename_i hg
            split at h
            · rename_i i hi
              split at h
              · rename_i hf
                obtain ⟨xs, h1, rfl⟩ := om h
                obtain ⟨q1, q2⟩ := chain_two h1
                exact sE_call g hA hg.1 hg.2.1 hf hi h1 q1 q2
              · cases h
            · split at h
              · rename_i hisi
                subst hisi
                split at h
                · rename_i t pt
                  split at h
                  · rename_i hgt
                    split at h
                    · rename_i xa ty h1 h2
                      cases h
                      exact sE_isi g hE hg.1 hgt h2 h1
                    · cases h
                  · cases h
                · cases h
              · split at h
                · rename_i hso
                  subst hso
                  split at h
                  · split at h
                    · rename_i hgs
                      obtain ⟨rfl, hgs⟩ := hgs
                      obtain ⟨xb, h1, rfl⟩ := om h
                      exact sE_srt g hE hg.1 hgs h1
                    · cases h
                  · cases h
                split at h
                · split at h
                  · rename_i b xa h1 h2
                    cases h
                    exact sE_b1 g hE hg.1 hg.2.1 hg.2.2 h1 h2
                  · cases h
                · split at h
                  · rename_i b xa xd h1 h2 h3
                    cases h
                    exact sE_b2 g hE hg.1 hg.2.1 hg.2.2 h1 h2 h3
                  · cases h
                · cases h
          · cases h
      | Attribute o m apos =>
        cases as with
        | nil => simp only [compE] at h; cases h
        | cons a r =>
          cases r with
          | cons b r => simp only [compE] at h; cases h
          | nil =>
            have main : (apos.endLine == pos.line) = true → (∀ x p q, o ≠ .Call (.Name x p) [] [] q) → (match m1Of m, compE n c o, compE n c a with
                | some k, some x, some y => some (CE.m1 k x y)
                | none, some x, some y => if m = "append" then some (.mapp x y) else if m = "extend" then some (.mext x y) else none
                | _, _, _ => none) = some x → PE X (.Call (.Attribute o m apos) [a] [] pos) (tE X.K cv C W x) := fun hl ho q => by
              split at q
              · rename_i k xo xa h1 h2 h3
                cases q
                exact sE_m1 g hE hl ho h1 h2 h3
              · rename_i xo xa h1 h2 h3
                split at q
                · rename_i hm
                  cases q
                  subst hm
                  exact sE_mapp g hE hl ho h2 h3
                · split at q
                  · rename_i hm
                    cases q
                    subst hm
                    exact sE_mext g hE hl ho h2 h3
                  · cases q
              · cases q
            simp only [compE] at h
            split at h
            · rename_i hl
              split at h
              · cases h
              · rename_i ho
                exact main hl (fun x p q e => ho x p q e) h
            · cases h
      | _ => simp only [compE] at h; cases h
  | ListComp elt gs scope pos =>
    cases gs with
    | nil => simp only [compE] at h; cases h
    | cons gen r =>
      cases r with
      | cons g2 r =>
        cases r with
        | cons g3 r => simp only [compE] at h; cases h
        | nil =>
          obtain ⟨tg, iter, ifs, asy⟩ := gen
          obtain ⟨tg1, iter1, ifs1, asy1⟩ := g2
          simp only [compE] at h
          split at h
          · rename_i ok
            obtain ⟨ha, ha1, hf, hf1, ok⟩ := ok
            subst ha ha1 hf hf1
            split at h
            · rename_i xe i0 s j0 s2 h1 h2 h3 h4 h5
              split at h
              · rename_i h6
                cases h
                exact (sE_comp2 g hE hI ok h1 h2 h3 h4 h5 h6.1 h6.2).1
              · cases h
            · cases h
          · cases h
      | nil =>
        obtain ⟨tg, iter, ifs, asy⟩ := gen
        simp only [compE] at h
        split at h
        · rename_i ok
          obtain ⟨ha, ok⟩ := ok
          subst ha
          split at h
          · rename_i xe t s q h1 h2 h3 h4
            split at h
            · rename_i h5
              cases h
              exact (sE_comp g hE hI hC ok h1 h2 h3 h4 h5).1
            · cases h
          · cases h
        · cases h
  | _ => simp only [compE] at h; cases h
end
end Wf
namespace Wf
open PySem PySem.Spec PyProof.Rows L2
section
variable {cv : Nat → Value} {C : Orc}
theorem pw_of {X : Cx} {op : BoolOp} {vs : List Expr} {pos : Pos} {t : TT} (h : PT X (.BoolOp op vs pos) t) : PW X (.BoolOp op vs pos) t := ⟨fun whole pins s σ H Q I q => h.run pins s σ H Q I q⟩
section
variable {K : PySem.W.Frag} {W : WX'} {σ : L2.St} {H : Hp} {Q : Bool → Hp → Prop}
theorem tT_not {a : CE} (h : tT K cv C W (.not_ a) σ H Q) : tNot (tT K cv C W a) σ H Q := by
  obtain ⟨f, ps, st, sl, so, p⟩ := h
  simp only [ev] at p
  refine ⟨f, ps, st, sl, so, p.bind.imp fun x st1 f1 H1 t1 s1 p1 => ?_⟩
  split at p1
  · obtain ⟨b, e, q⟩ := p1 f1 H1 (Tr.refl _ _) s1
    cases e
    exact ⟨_, rfl, q⟩
  · exact p1.elim
theorem tT_and {a b : CE} (h : tT K cv C W (.and_ a b) σ H Q) : tAnd (tT K cv C W a) (tT K cv C W b) σ H Q := by
  obtain ⟨f, ps, st, sl, so, p⟩ := h
  simp only [ev] at p
  refine ⟨f, ps, st, sl, so, p.bind.imp fun x st1 f1 H1 t1 s1 p1 => ?_⟩
  split at p1
  · exact ⟨true, rfl, iteT ⟨f1, ps, st1, sl.tr t1 s1, s1, p1⟩⟩
  · obtain ⟨b, e, q⟩ := p1 f1 H1 (Tr.refl _ _) s1
    cases e
    exact ⟨false, rfl, iteF q⟩
  · exact p1.elim
theorem tT_or {a b : CE} (h : tT K cv C W (.or_ a b) σ H Q) : tOr (tT K cv C W a) (tT K cv C W b) σ H Q := by
  obtain ⟨f, ps, st, sl, so, p⟩ := h
  simp only [ev] at p
  refine ⟨f, ps, st, sl, so, p.bind.imp fun x st1 f1 H1 t1 s1 p1 => ?_⟩
  split at p1
  · obtain ⟨b, e, q⟩ := p1 f1 H1 (Tr.refl _ _) s1
    cases e
    exact ⟨true, rfl, iteT q⟩
  · exact ⟨false, rfl, iteF ⟨f1, ps, st1, sl.tr t1 s1, s1, p1⟩⟩
  · exact p1.elim
end
theorem sT (n : Nat) (hE1 : PEs cv C (n + 1)) (hE : PEs cv C n) (hT : PTsn cv C n) : PTsn cv C (n + 1) := by
  intro X c W e x g h ht
  have pe := hE1 X c W e x g h
  cases e with
  | UnaryOp op a pos =>
    cases op with
    | Not =>
      simp only [compE] at h
      obtain ⟨xa, h1, rfl⟩ := om h
      exact PT.of' (pt_not (hT X c W a xa g h1 ht)) fun σ H Q q => tT_not q
    | _ => exact pt_of pe fun _ => rfl
  | BoolOp op vs pos =>
    cases vs with
    | nil => simp only [compE] at h; cases h
    | cons a r =>
      cases r with
      | nil =>
        simp only [compE] at h
        have h2 := hT X c W a x g h ht
        cases op with
        | And => exact PW.pt (pw_and1 h2)
        | Or => exact PW.pt (pw_or1 h2)
      | cons b r =>
        have ht2 : (testOk n a && testOk n (.BoolOp op (b :: r) pos)) = true := ht
        rw [Bool.and_eq_true] at ht2
        simp only [compE] at h
        split at h
        · rename_i xa xb h1 h2
          cases h
          have pa := hT X c W a xa g h1 ht2.1
          have pb := pw_of (hT X c W _ xb g h2 ht2.2)
          cases op with
          | And => exact PT.of' (PW.pt (pw_and pa pb)) fun σ H Q q => tT_and q
          | Or => exact PT.of' (PW.pt (pw_or pa pb)) fun σ H Q q => tT_or q
        · cases h
  | IfExp t a b pos => cases ht
  | Compare a ops bs pos =>
    simp only [compE] at h
    split at h
    · rename_i op b
      split at h
      · cases h
      · rename_i hm
        split at h
        · rename_i xa o xb h1 h2 h3
          cases h
          exact PT.of' (pt_cmpR (op_cmpP g.un h2) (hE X c W a xa g h1) (hE X c W b xb g h3) (by simpa using hm)) fun σ H Q q => tT_of (fun _ z => tE_op z) q
        · cases h
    · rename_i op op2 b d
      split at h
      · cases h
      · rename_i hm
        split at h
        · rename_i xa o xb o2 xd h1 h2 h3 h4 h5
          cases h
          exact PT.of' (pt_chain (op_cmpP g.un h2) (op_cmpP g.un h4) (hE X c W a xa g h1) (hE X c W b xb g h3) (hE X c W d xd g h5) (by simpa using hm)) fun σ H Q q => tT_of (fun _ z => tE_chain z) q
        · cases h
    · cases h
  | Starred a pos => cases ht
  | _ => exact pt_of pe fun _ => rfl
theorem sA (n : Nat) (hE : PEs cv C n) (hA : PAs cv C n) : PAs cv C (n + 1) := by
  intro X c W es x g h
  cases es with
  | nil =>
    have e : CEs.nil = x := Option.some.inj h
    subst e
    exact PA.of' pa_nil fun σ H Q q => tA_nil q
  | cons e r =>
    have h2 : (match compE n c e, compEs n c r with | some x, some y => some (CEs.cons x y) | _, _ => none) = some x := h
    split at h2
    · rename_i xe xr h3 h4
      cases h2
      exact PA.of' (pa_cons (hE X c W e xe g h3) (hA X c W r xr g h4) (star_ne h3 r X.env)) fun σ H Q q => tA_cons q
    · cases h2
theorem sO (n : Nat) (hE : PEs cv C n) : POs cv C (n + 1) := by
  intro X c W e x g h
  cases e with
  | none =>
    have e : CEo.none = x := Option.some.inj h
    subst e
    exact PO.of' po_none fun σ H Q q => tO_none q
  | some e =>
    have h2 : (compE n c e).map CEo.some = some x := h
    obtain ⟨xe, h3, rfl⟩ := om h2
    exact PO.of' (po_some (hE X c W e xe g h3)) fun σ H Q q => tO_some q
theorem sC (n : Nat) (hT : PTsn cv C n) : PCs cv C (n + 1) := by
  intro X c W es x g h
  cases es with
  | nil =>
    have e : CEo.none = x := Option.some.inj h
    subst e
    exact pts_nil
  | cons e r =>
    cases r with
    | nil =>
      simp only [compC] at h
      split at h
      · rename_i ht
        obtain ⟨xe, h3, rfl⟩ := om h
        exact pts_one (hT X c W e xe g h3 ht)
      · cases h
    | cons e2 r => simp only [compC] at h; cases h
theorem sI (n : Nat) (hE : PEs cv C n) : PIs cv C (n + 1) := by
  intro X c W tg e x g h
  have seq : (∀ es k p, e ≠ .Set es k p) → ((compE n c e).map CI.seq = some x) → PI X tg e (tI X.K cv C W x) ∧ ∀ env v, foldedSetIterable e env v = pure v := fun hs q => by
    obtain ⟨xe, h3, rfl⟩ := om q
    refine ⟨pi_seqP (hE X c W e xe g h3), fun env v => ?_⟩
    cases e <;> first | rfl | (rename_i es k p; exact absurd rfl (hs es k p))
  cases e with
  | Set es k p => simp only [compI] at h; cases h
  | Call f as ks pos =>
    cases f with
    | Name y p =>
      cases as with
      | nil => exact seq (by intro a b d q; cases q) (by simpa only [compI] using h)
      | cons a r =>
        cases r with
        | cons b r => exact seq (by intro a b d q; cases q) (by simpa only [compI] using h)
        | nil =>
          cases ks with
          | cons k ks => exact seq (by intro a b d q; cases q) (by simpa only [compI] using h)
          | nil =>
            simp only [compI] at h
            split at h
            · rename_i hg
              obtain ⟨hg, rfl⟩ := hg
              obtain ⟨xa, h3, rfl⟩ := om h
              exact ⟨pi_rngP (g.gl hg) (g.bi "range" (by decide +kernel)) (hE X c W a xa g h3) (star_ne h3 [] X.env), fun env v => rfl⟩
            · split at h
              · rename_i hg
                obtain ⟨hg, rfl⟩ := hg
                split at h
                · obtain ⟨xa, h3, rfl⟩ := om h
                  exact ⟨pi_enumP (g.gl hg) (g.bi "enumerate" (by decide +kernel)) (hE X c W a xa g h3) (star_ne h3 [] X.env), fun env v => rfl⟩
                · cases h
              · exact seq (by intro a b d q; cases q) h
    | _ => exact seq (by intro a b d q; cases q) (by simpa only [compI] using h)
  | _ => exact seq (by intro a b d q; cases q) (by simpa only [compI] using h)
theorem all_E : ∀ n : Nat, PEs cv C n ∧ PTsn cv C n ∧ PAs cv C n ∧ POs cv C n ∧ PIs cv C n ∧ PCs cv C n
  | 0 => ⟨fun _ _ _ _ _ _ h => (by cases h), fun _ _ _ _ _ _ h => (by cases h), fun _ _ _ _ _ _ h => (by cases h), fun _ _ _ _ _ _ h => (by cases h), fun _ _ _ _ _ _ _ h => (by cases h), fun _ _ _ _ _ _ h => (by cases h)⟩
  | n + 1 => by
    obtain ⟨hE, hT, hA, hO, hI, hC⟩ := all_E n
    have h1 := sE n hE hT hA hO hI hC
    exact ⟨h1, sT n h1 hE hT, sA n hE hA, sO n hE, sI n hE, sC n hT⟩
end
end Wf
namespace Wf
open PySem PySem.Spec PyProof.Rows L2
theorem sw_not {e : Expr} (h : isCompE e = false) (t : Option Expr) (l : Nat) (env : Env) : swapsWith e t l env = pure false := by
  cases e <;> first | rfl | cases h
theorem sw_comp (elt : Expr) (gs : List Comprehension) (scope : Scope) (pos py : Pos) (y : Str) (l : Nat) (env : Env) : swapsWith (.ListComp elt gs scope pos) (some (.Name y py)) l env =
    pure (env.blockKind == .function && env.kindOf y == some .local && py.line == pos.line && !(scope.names.any fun (n, k) => n == y && (k == .local || k == .cell))) := rfl
theorem block_kind {env : Env} {sc : Scope} (h : env.scope = sc) (hk : sc.kind = .function) : env.blockKind = .function := by
  unfold Env.blockKind
  rw [h, hk]
  rfl
def swapNames (sc : Scope) (ts : List Expr) : List Str := ts.filterMap fun
      | .Name id pos => if sc.names.lookup id == some .local && pos.line == (ts.head?.map (·.pos.line)).getD 0 then some id else none
      | _ => none
theorem swap_eq {env : Env} {sc : Scope} {ts vs : List Expr} {k k2 : Nat} {p p2 : Pos} (h : env.scope = sc) (hk : sc.kind = .function) : swappedStores [.Tuple ts k p] (.Tuple vs k2 p2) env =
   (match swapB sc ts vs with
    | none => (do unsupported "assign.tuple-of-constant-expressions:order-of-the-stores"; return some (swapNames sc ts))
    | some false => pure none
    | some true => pure (some (swapNames sc ts))) := by
  have hbk := block_kind h hk
  have hkind : ∀ x, env.kindOf x = sc.names.lookup x := fun x => by show env.scope.names.lookup x = _; rw [h]
  unfold swapB swappedStores swapNames
  simp only [hbk, hkind]
  have hf : (ScopeKind.function != ScopeKind.function) = false := rfl
  simp only [hf, Bool.or_false]
  generalize (!(ts.length == 2 || ts.length == 3) || vs.length != ts.length) = b1
  cases b1
  · simp only [Bool.false_eq_true, if_false]
    generalize (vs.any fun | .Starred .. => true | _ => false) = b2
    cases b2
    · simp only [Bool.false_eq_true, if_false]
      generalize (List.filterMap _ ts) = nm
      generalize (nm.length != ts.length || nm.eraseDups.length != nm.length) = b3
      cases b3
      · simp only [Bool.false_eq_true, if_false]
        generalize (vs.all (foldedForSure 8)) = b4
        cases b4
        · simp only [Bool.false_eq_true, if_false]
          generalize (vs.all (constantsAlone 8)) = b5
          cases b5
          · rfl
          · rfl
        · rfl
      · rfl
    · rfl
  · rfl

theorem swap_len {sc : Scope} {ts vs : List Expr} (h : swapB sc ts vs = some true) : (swapNames sc ts).length = ts.length := by
  unfold swapB at h
  split at h
  · cases h
  split at h
  · cases h
  dsimp only at h
  split at h
  · cases h
  · rename_i hn
    have : ((swapNames sc ts).length != ts.length) = false := by
      cases q : ((swapNames sc ts).length != ts.length) with
      | false => rfl
      | true =>
        refine absurd ?_ hn
        show ((swapNames sc ts).length != ts.length || _) = true
        rw [q]
        rfl
    simpa using this
theorem fm_len {α β : Type} (g : α → Option β) : ∀ l : List α, (l.filterMap g).length ≤ l.length
  | [] => Nat.le_refl _
  | a :: r => by
    have := fm_len g r
    rw [List.filterMap_cons]
    split
    · simp; omega
    · simp; omega
theorem fm_all {α β : Type} (g : α → Option β) : ∀ {l : List α}, (l.filterMap g).length = l.length → l.map g = (l.filterMap g).map some
  | [], _ => rfl
  | a :: r, h => by
    have hl := fm_len g r
    rw [List.filterMap_cons] at h ⊢
    cases q : g a with
    | none => rw [q] at h; simp at h; omega
    | some b =>
      rw [q] at h
      rw [List.map_cons, q]
      show some b :: r.map g = some b :: (r.filterMap g).map some
      rw [fm_all g (by simpa using h)]
def swG (sc : Scope) (ts : List Expr) : Expr → Option Str := fun
      | .Name id pos => if sc.names.lookup id == some .local && pos.line == (ts.head?.map (·.pos.line)).getD 0 then some id else none
      | _ => none
theorem swG_name {sc : Scope} {ts : List Expr} {x z : Str} {px : Pos} (h : swG sc ts (.Name x px) = some z) : z = x ∧ sc.names.lookup x = some .local := by
  have h2 : (if (sc.names.lookup x == some .local && px.line == (ts.head?.map (·.pos.line)).getD 0) = true then some x else none) = some z := h
  split at h2
  · rename_i q
    rw [Bool.and_eq_true] at q
    exact ⟨(Option.some.inj h2).symm, by simpa using q.1⟩
  · cases h2
theorem swap_two {sc : Scope} {x y : Str} {px py : Pos} (h : (swapNames sc [.Name x px, .Name y py]).length = 2) : sc.names.lookup x = some .local ∧ sc.names.lookup y = some .local ∧ swapNames sc [.Name x px, .Name y py] = [x, y] := by
  have e : [Expr.Name x px, .Name y py].map (swG sc [.Name x px, .Name y py]) = (swapNames sc [.Name x px, .Name y py]).map some := fm_all (swG sc [.Name x px, .Name y py]) h
  cases q : swapNames sc [.Name x px, .Name y py] with
  | nil => rw [q] at h; cases h
  | cons a r =>
    cases r with
    | nil => rw [q] at h; cases h
    | cons b r =>
      cases r with
      | cons d r => rw [q] at h; simp at h
      | nil =>
        rw [q] at e
        simp only [List.map_cons, List.map_nil, List.cons.injEq, and_true] at e
        obtain ⟨e1, e2⟩ := e
        obtain ⟨rfl, l1⟩ := swG_name e1
        obtain ⟨rfl, l2⟩ := swG_name e2
        exact ⟨l1, l2, rfl⟩
theorem swap_three {sc : Scope} {x y z : Str} {px py pz : Pos} (h : (swapNames sc [.Name x px, .Name y py, .Name z pz]).length = 3) : sc.names.lookup x = some .local ∧ sc.names.lookup y = some .local ∧ sc.names.lookup z = some .local ∧ swapNames sc [.Name x px, .Name y py, .Name z pz] = [x, y, z] := by
  have e : [Expr.Name x px, .Name y py, .Name z pz].map (swG sc [.Name x px, .Name y py, .Name z pz]) = (swapNames sc [.Name x px, .Name y py, .Name z pz]).map some := fm_all (swG sc [.Name x px, .Name y py, .Name z pz]) h
  cases q : swapNames sc [.Name x px, .Name y py, .Name z pz] with
  | nil => rw [q] at h; cases h
  | cons a r =>
    cases r with
    | nil => rw [q] at h; cases h
    | cons b r =>
      cases r with
      | nil => rw [q] at h; cases h
      | cons d r =>
        cases r with
        | cons d2 r => rw [q] at h; simp at h
        | nil =>
          rw [q] at e
          simp only [List.map_cons, List.map_nil, List.cons.injEq, and_true] at e
          obtain ⟨e1, e2, e3⟩ := e
          obtain ⟨rfl, l1⟩ := swG_name e1
          obtain ⟨rfl, l2⟩ := swG_name e2
          obtain ⟨rfl, l3⟩ := swG_name e3
          exact ⟨l1, l2, l3, rfl⟩
section
variable {cv : Nat → Value} {C : Orc} {X : Cx} {c : Ctx} {E : XK} {n N : Nat}
theorem PS.of' {st : Stmt} {t t' : TS} (h : PS X st t) (i : ∀ D σ H, t' D σ H → t D σ H) : PS X st t' := ⟨fun pins s σ H D I q => h.run pins s σ H D I (i D σ H q)⟩
theorem PSs.of' {st : List Stmt} {t t' : TS} (h : PSs X st t) (i : ∀ D σ H, t' D σ H → t D σ H) : PSs X st t' := ⟨fun pins s σ H D I q => h.run pins s σ H D I (i D σ H q)⟩
theorem sM (g : Good X c cv C (noσ E)) {x : Str} {e : Expr} {y : CE} (h : compM n c x e = some y) : PE X e (tE X.K cv C (noσ E) y) := by
  obtain ⟨hE, hT, hA, hO, hI, hC⟩ := all_E (cv := cv) (C := C) n
  unfold compM at h
  split at h
  · split at h
    · obtain ⟨xs, h1, rfl⟩ := om h
      exact PE.of' (pe_lst (hA X c _ _ xs g h1)) fun σ H Q q => tE_newl q
    · split at h
      · rename_i xa xb h1 h2
        cases h
        exact PE.of' (pe_op op_catR (hE X c _ _ xa g h1) (hE X c _ _ xb g h2)) fun σ H Q q => tE_newcat q
      · cases h
    · exact hE X c _ _ y g h
  · exact hE X c _ _ y g h
theorem star_neM {c : Ctx} {x : Str} {e : Expr} {y : CE} (h : compM n c x e = some y) (es : List Expr) (env : Env) : starEach (e :: es) env = (false, eval e env) :: starEach es env := by
  unfold compM at h
  split at h
  · split at h
    · rfl
    · rfl
    · exact star_ne h es env
  · exact star_ne h es env
theorem compM_lc {x : Str} {elt : Expr} {gs : List Comprehension} {scope : Scope} {pos : Pos} {y : CE} (h : compM n c x (.ListComp elt gs scope pos) = some y) : compE n c (.ListComp elt gs scope pos) = some y := by
  unfold compM at h
  split at h
  · exact h
  · exact h
theorem sSet (g : Good X c cv C (noσ E)) {x : Str} {px pos : Pos} {e : Expr} {i : Nat} {y : CE} (hi : c.lslot x = some i) (h : compM n c x e = some y) : PS X (.Assign [.Name x px] e pos) (tS X.K cv C E N (.set i y)) := by
  obtain ⟨a1, a2, a3⟩ := g.lslot hi
  have pe := sM g h
  have plain : swapsWith e (some (.Name x px)) pos.line X.env = pure false → PS X (.Assign [.Name x px] e pos) (tS X.K cv C E N (.set i y)) := fun hs =>
    PS.of' (ps_set g.nodup a1 a2 pe hs a3) fun D σ H q => tS_set q
  by_cases hc : isCompE e = false
  · exact plain (sw_not hc _ _ _)
  · cases e with
    | ListComp elt gs scope lpos =>
      have h2 := compM_lc h
      obtain ⟨hE, hT, hA, hO, hI, hC⟩ := all_E (cv := cv) (C := C) n
      cases n with
      | zero => cases h2
      | succ n =>
        obtain ⟨hE, hT, hA, hO, hI, hC⟩ := all_E (cv := cv) (C := C) n
        cases gs with
        | nil => simp only [compE] at h2; cases h2
        | cons gen r =>
          cases r with
          | cons g2 r =>
            cases r with
            | cons g3 r => simp only [compE] at h2; cases h2
            | nil =>
              obtain ⟨tg, iter, ifs, asy⟩ := gen
              obtain ⟨tg1, iter1, ifs1, asy1⟩ := g2
              simp only [compE] at h2
              split at h2
              · rename_i ok
                obtain ⟨ha, ha1, hf, hf1, ok⟩ := ok
                subst ha ha1 hf hf1
                split at h2
                · rename_i xe i0 s j0 s2 h3 h4 h5 h6 h7
                  split at h2
                  · rename_i h8
                    cases h2
                    cases hb : (X.env.blockKind == .function && X.env.kindOf x == some .local && px.line == lpos.line && !(scope.names.any fun (n, k) => n == x && (k == .local || k == .cell))) with
                    | true =>
                      have hsw : swapsWith (.ListComp elt [⟨tg, iter, [], 0⟩, ⟨tg1, iter1, [], 0⟩] scope lpos) (some (.Name x px)) pos.line X.env = pure true := by rw [sw_comp, hb]
                      have hl : X.env.scope.names.lookup x = some .local := by
                        simp only [Bool.and_eq_true] at hb
                        have := hb.1.1.2
                        have e2 : (X.env.scope.names.lookup x == some .local) = true := this
                        simpa using e2
                      exact (sE_comp2 g hE hI ok h3 h4 h5 h6 h7 h8.1 h8.2).2 rfl a1 hl hsw
                    | false => exact plain (by rw [sw_comp, hb])
                  · cases h2
                · cases h2
              · cases h2
          | nil =>
            obtain ⟨tg, iter, ifs, asy⟩ := gen
            simp only [compE] at h2
            split at h2
            · rename_i ok
              obtain ⟨ha, ok⟩ := ok
              subst ha
              split at h2
              · rename_i xe t s q h3 h4 h5 h6
                split at h2
                · rename_i h7
                  cases h2
                  cases hb : (X.env.blockKind == .function && X.env.kindOf x == some .local && px.line == lpos.line && !(scope.names.any fun (n, k) => n == x && (k == .local || k == .cell))) with
                  | true =>
                    have hsw : swapsWith (.ListComp elt [⟨tg, iter, ifs, 0⟩] scope lpos) (some (.Name x px)) pos.line X.env = pure true := by rw [sw_comp, hb]
                    have hl : X.env.scope.names.lookup x = some .local := by
                      simp only [Bool.and_eq_true] at hb
                      have := hb.1.1.2
                      have e2 : (X.env.scope.names.lookup x == some .local) = true := this
                      simpa using e2
                    exact (sE_comp g hE hI hC ok h3 h4 h5 h6 h7).2 rfl a1 hl hsw
                  | false => exact plain (by rw [sw_comp, hb])
                · cases h2
              · cases h2
            · cases h2
    | _ => first
      | exact absurd rfl hc
      | (exfalso; unfold compM at h; split at h <;> (cases n <;> (simp only [compE] at h; cases h)))
theorem sPar (g : Good X c cv C (noσ E)) {ts vs : List Expr} {is : List Nat} {k k2 : Nat} {p p2 pos : Pos} {y : CS} (hn : namesT c ts = some is) (hb : swapB c.sc ts vs = some true)
    (h : compPar n c is vs = some y) : PS X (.Assign [.Tuple ts k p] (.Tuple vs k2 p2) pos) (tS X.K cv C E N y) := by
  obtain ⟨hE, hT, hA, hO, hI, hC⟩ := all_E (cv := cv) (C := C) n
  have names : ∀ {ts : List Expr} {is : List Nat}, namesT c ts = some is → ∃ xs : List (Str × Pos), ts = xs.map (fun q => .Name q.1 q.2) ∧ Paired (fun q i => c.lslot q.1 = some i) xs is := by
    intro ts
    induction ts with
    | nil => intro is q; cases q; exact ⟨[], rfl, .nil⟩
    | cons t r ih =>
      intro is q
      cases t with
      | Name x px =>
        have q2 : (match c.lslot x, namesT c r with | some i, some is => some (i :: is) | _, _ => none) = some is := q
        split at q2
        · rename_i i js h1 h2
          cases q2
          obtain ⟨xs, e1, e2⟩ := ih h2
          exact ⟨(x, px) :: xs, by rw [e1]; rfl, .cons h1 e2⟩
        · cases q2
      | _ => cases q
  obtain ⟨xs, rfl, hp⟩ := names hn
  have hl := swap_len hb
  clear hn names
  unfold compPar at h
  split at h
  · rename_i i j a b
    split at h
    · cases h
    · rename_i hij
      split at h
      · rename_i xa xb h1 h2
        cases h
        cases hp with
        | cons q1 hp =>
          cases hp with
          | cons q2 hp =>
            cases hp
            rename_i s1 s2
            obtain ⟨x1, p1⟩ := s1
            obtain ⟨x2, p2'⟩ := s2
            obtain ⟨l1, l2, e⟩ := swap_two (sc := c.sc) (px := p1) (py := p2') hl
            obtain ⟨a1, _, _⟩ := g.lslot q1
            obtain ⟨b1, _, _⟩ := g.lslot q2
            refine PS.of' (ps_par g.calm g.nodup a1 b1 hij (by rw [g.sc]; exact l1) (by rw [g.sc]; exact l2) (pa_cons (sM g h1) (pa_cons (sM g h2) pa_nil (star_neM h2 [] X.env)) (star_neM h1 [b] X.env)) ?_ rfl) fun D σ H q => tS_par q
            have z := swap_eq (k := k) (k2 := k2) (p := p) (p2 := p2) (ts := [.Name x1 p1, .Name x2 p2']) (vs := [a, b]) g.sc g.kind
            rw [show swapB c.sc [.Name x1 p1, .Name x2 p2'] [a, b] = some true from hb, e] at z
            exact z
      · cases h
  · rename_i i j l a b d
    split at h
    · cases h
    · rename_i hij
      split at h
      · rename_i xa xb xd h1 h2 h3
        cases h
        cases hp with
        | cons q1 hp =>
          cases hp with
          | cons q2 hp =>
            cases hp with
            | cons q3 hp =>
              cases hp
              rename_i s1 s2 s3
              obtain ⟨x1, p1⟩ := s1
              obtain ⟨x2, p2'⟩ := s2
              obtain ⟨x3, p3⟩ := s3
              obtain ⟨l1, l2, l3, e⟩ := swap_three (sc := c.sc) (px := p1) (py := p2') (pz := p3) hl
              obtain ⟨a1, _, _⟩ := g.lslot q1
              obtain ⟨b1, _, _⟩ := g.lslot q2
              obtain ⟨d1, _, _⟩ := g.lslot q3
              refine PS.of' (ps_par3 g.calm g.nodup a1 b1 d1 (fun z => hij (.inl z)) (fun z => hij (.inr (.inl z))) (fun z => hij (.inr (.inr z))) (by rw [g.sc]; exact l1) (by rw [g.sc]; exact l2) (by rw [g.sc]; exact l3)
                (pa_cons (hE X c _ a xa g h1) (pa_cons (hE X c _ b xb g h2) (pa_cons (hE X c _ d xd g h3) pa_nil (star_ne h3 [] X.env)) (star_ne h2 [d] X.env)) (star_ne h1 [b, d] X.env)) ?_ rfl) fun D σ H q => tS_par3 q
              have z := swap_eq (k := k) (k2 := k2) (p := p) (p2 := p2) (ts := [.Name x1 p1, .Name x2 p2', .Name x3 p3]) (vs := [a, b, d]) g.sc g.kind
              rw [show swapB c.sc [.Name x1 p1, .Name x2 p2', .Name x3 p3] [a, b, d] = some true from hb, e] at z
              exact z
      · cases h
  · cases h
theorem sSetT (g : Good X c cv C (noσ E)) {ts : List Expr} {e : Expr} {is : List Nat} {k : Nat} {p pos : Pos} {y : CE} (hn : namesT c ts = some is) (hc : isCompE e = false) (hw : swappedStores [.Tuple ts k p] e X.env = pure none) (h : compE n c e = some y) :
    PS X (.Assign [.Tuple ts k p] e pos) (tS X.K cv C E N (.setT is y)) := by
  obtain ⟨hE, hT, hA, hO, hI, hC⟩ := all_E (cv := cv) (C := C) n
  have hg : PG X (.Tuple ts k p) (gTg X.K (.many is)) := pg_P g (t := .many is) (by show (namesT c ts).map Tg.many = _; rw [hn]; rfl)
  exact PS.of' (ps_asg (hE X c _ e y g h) hg (show swapsWith e (some (.Tuple ts k p)) pos.line X.env = pure false from sw_not hc _ _ _) hw rfl) fun D σ H q => tS_setT q
end
end Wf
namespace Wf
open PySem PySem.Spec PyProof.Rows L2
section
variable {cv : Nat → Value} {C : Orc} {X : Cx} {c : Ctx} {E : XK} {N : Nat}
abbrev PSn (cv : Nat → Value) (C : Orc) (N n : Nat) : Prop := ∀ (X : Cx) (c : Ctx) (E : XK) (s : Stmt) (y : CS), Good X c cv C (noσ E) → compS n c s = some y → PS X s (tS X.K cv C E N y)
abbrev PBn (cv : Nat → Value) (C : Orc) (N n : Nat) : Prop := ∀ (X : Cx) (c : Ctx) (E : XK) (s : List Stmt) (y : CS), Good X c cv C (noσ E) → compB n c s = some y → PSs X s (tS X.K cv C E N y)
theorem sB (n : Nat) (hS : PSn cv C N n) (hB : PBn cv C N n) : PBn cv C N (n + 1) := by
  intro X c E ss y g h
  cases ss with
  | nil =>
    have e : CS.skip = y := Option.some.inj h
    subst e
    exact PSs.of' pss_nil fun D σ H q => tS_skip q
  | cons s r =>
    cases r with
    | nil =>
      simp only [compB] at h
      exact pss_one (hS X c E s y g h)
    | cons t r =>
      simp only [compB] at h
      split at h
      · rename_i xs xr h1 h2
        cases h
        exact PSs.of' (pss_cons (hS X c E s xs g h1) (hB X c E _ xr g h2)) fun D σ H q => tS_seq q
      · cases h
theorem sS (n : Nat) (hB : PBn cv C N n) : PSn cv C N (n + 1) := by
  obtain ⟨hE, hT, hA, hO, hI, hC⟩ := all_E (cv := cv) (C := C) n
  intro X c E s y g h
  cases s with
  | Pass pos =>
    simp only [compS] at h
    cases h
    exact PS.of' ps_pass fun D σ H q => tS_skip q
  | Expr e pos =>
    simp only [compS] at h
    split at h
    · rename_i hc
      obtain ⟨x, h1, rfl⟩ := om h
      refine PS.of' (ps_expr (hE X c _ e x g h1) ?_) fun D σ H q => tS_expr q
      cases e <;> first | rfl | cases hc
    · cases h
  | Assign ts e pos =>
    cases ts with
    | nil => simp only [compS] at h; cases h
    | cons t r =>
      cases r with
      | cons t2 r => cases t <;> (simp only [compS] at h; cases h)
      | nil =>
        cases t with
        | Name x px =>
          simp only [compS] at h
          split at h
          · rename_i i z h1 h2
            cases h
            exact sSet g h1 h2
          · cases h
        | Tuple ts k p =>
          simp only [compS] at h
          split at h
          · cases h
          · rename_i is hn
            split at h
            · cases h
            · rename_i hc
              have hc' : isCompE e = false := by simpa using hc
              split at h
              · rename_i vs k2 p2
                split at h
                · cases h
                · rename_i hb
                  obtain ⟨x, h1, rfl⟩ := om h
                  refine sSetT g hn hc' ?_ h1
                  rw [swap_eq g.sc g.kind, hb]
                · rename_i hb
                  exact sPar g hn hb h
              · rename_i hne
                obtain ⟨x, h1, rfl⟩ := om h
                refine sSetT g hn hc' ?_ h1
                cases e with
                | Tuple vs k2 p2 => exact absurd rfl (hne vs k2 p2)
                | _ => rfl
        | Subscript o i ps =>
          simp only [compS] at h
          split at h
          · cases h
          · rename_i hs
            split at h
            · rename_i xo xi xe h1 h2 h3
              cases h
              have hg : PG X (.Subscript o i ps) (gSub (tE X.K cv C (noσ E) xo) (tE X.K cv C (noσ E) xi) rSetL) := by
                refine pg_sub (hE X c _ o xo g h1) (hE X c _ i xi g h2) set_list ?_
                intro v
                cases i <;> first | rfl | exact absurd (.inl rfl) hs
              have hc' : isCompE e = false := by
                cases q : isCompE e with
                | false => rfl
                | true => exact absurd (.inr q) hs
              refine PS.of' (ps_asg (hE X c _ e xe g h3) hg (show swapsWith e (some (.Subscript o i ps)) pos.line X.env = pure false from sw_not hc' _ _ _) ?_ rfl) fun D σ H q => tS_ixset q
              cases e <;> rfl
            · cases h
        | _ => simp only [compS] at h; cases h
  | Return v pos =>
    cases v with
    | none => simp only [compS] at h; cases h
    | some e =>
      simp only [compS] at h
      obtain ⟨x, h1, rfl⟩ := om h
      exact PS.of' (ps_ret (sM g h1)) fun D σ H q => tS_ret q
  | If t a b pos =>
    simp only [compS] at h
    split at h
    · rename_i ht
      split at h
      · rename_i xt xa xb h1 h2 h3
        cases h
        exact PS.of' (ps_if (hT X c _ t xt g h1 ht) (hB X c E a xa g h2) (hB X c E b xb g h3)) fun D σ H q => tS_if q
      · cases h
    · cases h
  | For tg iter body orelse pos =>
    cases orelse with
    | cons s r => simp only [compS] at h; cases h
    | nil =>
      simp only [compS] at h
      split at h
      · rename_i t i b h1 h2 h3
        cases h
        obtain ⟨pi, hs⟩ := hI X c _ tg iter i g h2
        exact PS.of' (ps_for g.po g.calm pi (pg_P g h1) (hB X c E body b g h3) fun v => hs _ v) fun D σ H q => tS_for q
      · cases h
  | While t body orelse pos =>
    cases orelse with
    | cons s r => simp only [compS] at h; cases h
    | nil =>
      simp only [compS] at h
      split at h
      · rename_i ht
        split at h
        · rename_i xt xb h1 h2
          cases h
          exact PS.of' (ps_while g.po (hT X c _ t xt g h1 ht) (hB X c E body xb g h2)) fun D σ H q => tS_while q
        · cases h
      · cases h
  | Raise ex cause pos =>
    have main : ∀ (x : Str) (p p2 p3 : Pos) (m : Str) (j : Nat), ex = some (.Call (.Name x p) [.Constant (.str m) j p2] [] p3) → cause = none → (if c.isGl x = true ∧ (x == ("__debug__" : Str)) = false ∧ x ∈ c.excs then (excNames.idxOf? x).map CS.raise_ else none) = some y → PS X (.Raise ex cause pos) (tS X.K cv C E N y) := by
      intro x p p2 p3 m j e1 e2 q
      subst e1 e2
      split at q
      · rename_i hg
        obtain ⟨i, h1, rfl⟩ := om q
        obtain ⟨Ca, e3, e4, e5, e6, e7⟩ := (g.exc x i hg.2.2 h1).ex
        refine PS.of' (ps_raise g.calm g.tk (pmk_own PySem.F.excBase_ValueError e5 e4 e6 e7 (g.gl hg.1) hg.2.1)) fun D σ H q => ?_
        have z := tS_raise q
        rw [e3] at z
        exact z
      · cases q
    simp only [compS] at h
    split at h
    all_goals first
      | (rename_i e; cases e)
      | skip
    all_goals first
      | exact main _ _ _ _ _ _ rfl rfl h
      | cases h
  | _ => simp only [compS] at h; cases h
theorem all_S : ∀ n : Nat, PSn cv C N n ∧ PBn cv C N n
  | 0 => ⟨fun _ _ _ _ _ _ h => (by cases h), fun _ _ _ _ _ _ h => (by cases h)⟩
  | n + 1 => by
    obtain ⟨hS, hB⟩ := all_S n
    exact ⟨sS n hB, sB n hS hB⟩
end
end Wf
/-! Defs: what a call of the core gives is what a call of the def gives. -/
namespace Wf
open PySem PySem.Spec PyProof.Rows L2
/-! ### what a call has made is forgotten -/
def Fm.cut (f : Fm) (n : Nat) : Fm := ⟨f.l.take n, f.z⟩
theorem cut_bar {f : Fm} {n : Nat} {a : Addr} (h : a ∉ f.bar) : a ∉ (f.cut n).bar := Fm.notBar (f := f.cut n) (fun z => Fm.notL h (List.mem_of_mem_take z)) (show a ∉ f.z from Fm.notZ h)
mutual
theorem Rep.cut {K : PySem.W.Frag} {f : Fm} {H : Hp} {n : Nat} : ∀ {x : PV} {v : V}, Rep K f H x v → x.under n = true → Rep K (f.cut n) H x v
  | _, _, .non, _ => .non
  | _, _, .bl b, _ => .bl b
  | _, _, .int i, _ => .int i
  | _, _, .str x, _ => .str x
  | .tup xs, _, .tup h nb r, u => .tup h (cut_bar nb) (Reps.cut r (by simpa only [PV.under] using u))
  | .tup xs, _, .tupK h r, u => .tupK h (Reps.cut r (by simpa only [PV.under] using u))
  | .lst xs, _, .lst h nb r, u => .lst h (cut_bar nb) (Reps.cut r (by simpa only [PV.under] using u))
  | .scr xs, _, .scr h nb r, u => .scr h (cut_bar nb) (Reps.cut r (by simpa only [PV.under] using u))
  | .scr xs, _, .scrK h r, u => .scrK h (Reps.cut r (by simpa only [PV.under] using u))
  | .loc k, _, .loc h, u => .loc (by
      have hk : k < n := by simpa only [PV.under, decide_eq_true_eq] using u
      show (f.l.take n)[k]? = _
      rw [List.getElem?_take_of_lt hk]
      exact h)
theorem Reps.cut {K : PySem.W.Frag} {f : Fm} {H : Hp} {n : Nat} : ∀ {xs : List PV} {vs : List V}, Reps K f H xs vs → PV.unders n xs = true → Reps K (f.cut n) H xs vs
  | _, _, .nil, _ => .nil
  | x :: xs, _, .cons a b, u => by
    have u2 : (x.under n && PV.unders n xs) = true := by simpa only [PV.unders] using u
    rw [Bool.and_eq_true] at u2
    exact .cons (Rep.cut a u2.1) (Reps.cut b u2.2)
end
theorem StOk.cut {K : PySem.W.Frag} {f : Fm} {H : Hp} {st : Store} {n : Nat} (s : StOk K f H st) (u : (st.take n).all (SObj.under n) = true) : StOk K (f.cut n) H (st.take n) where
  len := by show (f.l.take n).length = _; rw [List.length_take, List.length_take, s.len]
  nd := s.nd.sublist (List.take_sublist n f.l)
  obj := fun m a o h1 h2 => by
    have h1 : (f.l.take n)[m]? = some a := h1
    have hm : m < n := by
      have := (List.getElem?_eq_some_iff.mp h1).1
      rw [List.length_take] at this
      omega
    rw [List.getElem?_take_of_lt hm] at h1
    have ho := List.all_eq_true.mp u o (List.mem_of_getElem? h2)
    rw [List.getElem?_take_of_lt hm] at h2
    have r := s.obj m a o h1 h2
    cases o with
    | lst xs =>
      obtain ⟨vs, e, rs⟩ := r
      exact ⟨vs, e, rs.cut ho⟩
    | _ => exact r.elim
  zl := fun a ha => ⟨(s.zl a ha).1, fun z => (s.zl a ha).2 (List.mem_of_mem_take z)⟩
theorem Tr.cut {f f' : Fm} {H H' : Hp} (t : Tr f H f' H') : Tr f H (f'.cut f.l.length) H' := by
  obtain ⟨g, eg, hg⟩ := t.ext
  refine ⟨⟨[], ?_, by simp⟩, t.zz, t.keep, t.live⟩
  show f'.l.take f.l.length = f.l ++ []
  rw [eg]
  simp
theorem trunc_ok {K : PySem.W.Frag} {f f' : Fm} {H H' : Hp} {st st1 : Store} {v : PV} {w : V} (so : StOk K f H st) (t : Tr f H f' H') (s1 : StOk K f' H' st1) (r : Rep K f' H' v w) :
    ∃ f2, Tr f H f2 H' ∧ StOk K f2 H' (trunc st.length v st1) ∧ Rep K f2 H' v w := by
  unfold trunc
  split
  · exact ⟨f', t, s1, r⟩
  · split
    · rename_i h
      rw [Bool.and_eq_true] at h
      refine ⟨f'.cut st.length, ?_, s1.cut h.2, r.cut h.1⟩
      rw [← so.len]
      exact t.cut
    · exact ⟨f', t, s1, r⟩
theorem truncE_ok {K : PySem.W.Frag} {f f' : Fm} {H H' : Hp} {st st1 : Store} (so : StOk K f H st) (t : Tr f H f' H') (s1 : StOk K f' H' st1) :
    ∃ f2, Tr f H f2 H' ∧ StOk K f2 H' (truncE st.length st1) := by
  unfold truncE
  split
  · exact ⟨f', t, s1⟩
  · split
    · rename_i h
      refine ⟨f'.cut st.length, ?_, s1.cut h⟩
      rw [← so.len]
      exact t.cut
    · exact ⟨f', t, s1⟩
theorem slots_start {K : PySem.W.Frag} {f : Fm} {H : Hp} {args : List PV} {vs : List V} {N : List Str} {d : FDef} (r : Reps K f H args vs) (h1 : d.ns = N.length) (h2 : args.length = d.np) : SlOk K f H (startP d args) (start N vs) := by
  have hl := r.length
  refine ⟨?_, fun i x e => ?_⟩
  · unfold startP L2.start
    rw [List.length_append, List.length_append, List.length_map, List.length_map, List.length_replicate, List.length_replicate]
    omega
  · unfold startP at e
    by_cases hi : i < args.length
    · rw [List.getElem?_append_left (by rw [List.length_map]; exact hi), List.getElem?_map] at e
      cases q : args[i]? with
      | none => rw [q] at e; cases e
      | some y =>
        rw [q] at e
        have e2 : y = x := by
          have := Option.some.inj e
          exact Option.some.inj this
        subst e2
        obtain ⟨v, h3, h4⟩ := r.get q
        refine ⟨v, ?_, h4⟩
        unfold L2.start
        rw [List.getElem?_append_left (by rw [List.length_map]; omega), List.getElem?_map, h3]
        rfl
    · rw [List.getElem?_append_right (by rw [List.length_map]; omega)] at e
      have := List.mem_of_getElem? e
      rw [List.mem_replicate] at this
      cases this.2
/-- a def of the program and its core -/
structure DefOk (fn : List He.DefD) (fns excs gs : List Str) (T : Nat → Option FDef) (x : Str) (ps : List Str) : Prop where
  ex : ∃ (i : Nat) (d : He.DefD) (N muts : List Str) (b : CS), fnNames.idxOf? x = some i ∧ d ∈ fn ∧ d.at_ = (x, none) ∧ d.dfl = [] ∧ T i = some ⟨ps.length, N.length, b⟩ ∧ compB 100 ⟨N, d.scope, muts, fns, excs, gs, []⟩ d.body = some b ∧ FnScope N ps d.scope ∧
    (∀ (kV doc pm : Value) (an : Option Addr) (cdv ct : Value) (us : List Value), us.length = ps.length → bindArgs (PySem.W.fnOf d.name d.qual d.params d.body d.scope .none kV doc pm an cdv ct) ⟨us, []⟩ = pure (ps.zip us))
/-- what the head tells -/
structure Facts (P : Program) (w : World) (K : PySem.W.Frag) (mg : Str → Option Value) (base : Heap) (fn : List He.DefD) (fns excs gs : List Str) (cv : Nat → Value) : Prop where
  defs : ∀ d ∈ fn, ∃ fd, FunD K d.name d.qual d.params d.body d.scope (d.dvs K) (d.kws K) (He.fAd K d.at_) fd
  glo : ∀ x ∈ fns, mg x = some (.ref (He.ga K x))
  bi : ∀ x ∈ bNames, mg x = none
  gc : ∀ x v, x ∈ gs → gconst x = some v → ∃ u w, mg x = some u ∧ RelV w u ∧ ∀ f H, Rep K f H v w
  exc : ∀ x i, x ∈ excs → excNames.idxOf? x = some i → ∃ C, cv i = .ref C ∧ mg x = some (.ref C) ∧ PySem.W.excIn K C He.veBase "ValueError.__new__" = true ∧ PySem.W.keepIn K (.ref C) = true ∧ PySem.W.subIn K (.ref C) (.type "BaseException") = some true ∧ PySem.W.typeIn K (.ref C) = some (.type "type")
section
variable {P : Program} {w : World} {K : PySem.W.Frag} {mg : Str → Option Value} {base : Heap} {fn : List He.DefD} {fns excs gs : List Str} {cv : Nat → Value} {T : Nat → Option FDef} {W : Nat}
theorem all_fn (F : Facts P w K mg base fn fns excs gs cv) (D : ∀ x ∈ fns, ∃ ps, DefOk fn fns excs gs T x ps) : ∀ (n : Nat) (x : Str) (ps : List Str) (i : Nat), x ∈ fns → DefOk fn fns excs gs T x ps → fnNames.idxOf? x = some i →
    ∃ f fd, (∃ oc od osl, K.lookup f = some ⟨oc, od, .func fd, osl⟩) ∧ mg x = some (.ref f) ∧ PySem.W.keepIn K (.ref f) = true ∧ L2.Binds K fd ps [] ∧ FnOk P w K mg base (L2.CX P w) n f fd ps (spOf K cv (run T W n) i) := by
  intro n
  induction n with
  | zero =>
    intro x ps i hx hD hi
    obtain ⟨i', d, N, muts, b, e1, e2, e3, e4, e5, e6, S, hb⟩ := hD.ex
    obtain ⟨fd, G⟩ := F.defs d e2
    rw [e3] at G
    have dv : d.dvs K = [] := by unfold He.DefD.dvs; rw [e4]; rfl
    rw [dv] at G
    have hlk : ∃ oc od osl, K.lookup (He.fAd K (x, none)) = some ⟨oc, od, .func fd, osl⟩ := by
      obtain ⟨oc, od, _, _, _, _, _, _, _, osl, _, lk, _⟩ := G.ex
      exact ⟨oc, od, osl, lk⟩
    refine ⟨_, fd, hlk, F.glo x hx, G.kp, FunD.bindsN G hb, ⟨fun vs H Q E h => ?_, fun A outer s H args us vs Q E _ _ _ _ h => ?_⟩⟩
    · obtain ⟨f, args, st, _, _, p⟩ := h
      exact p.elim
    · obtain ⟨f, args, st, _, _, p⟩ := h
      exact p.elim
  | succ n ih =>
    intro x ps i hx hD hi
    obtain ⟨i', d, N, muts, b, e1, e2, e3, e4, e5, e6, S, hb⟩ := hD.ex
    rw [hi] at e1
    cases e1
    obtain ⟨fd, G⟩ := F.defs d e2
    rw [e3] at G
    have dv : d.dvs K = [] := by unfold He.DefD.dvs; rw [e4]; rfl
    rw [dv] at G
    have hrun : ∀ args st, run T W (n + 1) i args st = runBody (run T W n) W ⟨ps.length, N.length, b⟩ args st := fun args st => by
      show (match T i with | some d => runBody (run T W n) W d args st | none => R.no) = _
      rw [e5]
    have hlk : ∃ oc od osl, K.lookup (He.fAd K (x, none)) = some ⟨oc, od, .func fd, osl⟩ := by
      obtain ⟨oc, od, _, _, _, _, _, _, _, osl, _, lk, _⟩ := G.ex
      exact ⟨oc, od, osl, lk⟩
    refine ⟨_, fd, hlk, F.glo x hx, G.kp, FunD.bindsN G hb, G.ok S (fun vs H Q E h => ?_) (fun cdv A outer s H vs Q E hr h => ?_)⟩
    · obtain ⟨f, args, st, so, rs, p⟩ := h
      rw [hrun] at p
      unfold runBody at p
      split at p
      · rename_i hl
        rw [← rs.length]
        exact hl
      · exact p.elim
    · have good : Good (cxOf (L2.CX P w) P w K mg base N d.qual d.scope (He.fAd K (x, none)) cdv A outer s H E) ⟨N, d.scope, muts, fns, excs, gs, []⟩ cv (run T W n) (noσ E) := {
        N := rfl
        nd := S.nd
        sc := rfl
        kind := S.kind
        calm := rfl
        tk := takes_of rfl rfl rfl rfl
        po := passes_of rfl
        un := by have := hr.un; show (A.deeper (envOfC d.qual d.scope s.heap.objs.size (He.fAd K (x, none)) cdv)).units + 65 < _; omega
        fnc := fun _ _ _ => rfl
        orc := fun y j hy hj => by
          obtain ⟨ps', hD'⟩ := D y hy
          obtain ⟨f, fd', _, h1, h2, h3, h4⟩ := ih y ps' j hy hD' hj
          exact ⟨n, f, fd', ps', hr, h1, h2, h3, h4⟩
        bi := F.bi
        gc := F.gc
        exc := fun y j hy hj => by
          obtain ⟨Ca, h1, h2, h3, h4, h5, h6⟩ := F.exc y j hy hj
          exact ⟨Ca, h1, h2, h3, h4, raises_own h5 h6⟩ }
      refine ⟨_, (all_S (N := W) 100).2 _ _ E d.body b good e6, ?_⟩
      obtain ⟨f, args, st, so, rs, p⟩ := h
      rw [hrun] at p
      unfold runBody at p
      split at p
      · rename_i hl
        refine ⟨f, startP ⟨ps.length, N.length, b⟩ args, st, slots_start rs rfl hl, so, ?_⟩
        cases he : ex (run T W n) W b (startP ⟨ps.length, N.length, b⟩ args) st with
        | no => rw [he] at p; exact p.elim
        | exc c st1 =>
          rw [he] at p
          intro f1 H1 t1 s1
          obtain ⟨f2, t2, s2⟩ := truncE_ok so t1 s1
          exact p f2 H1 t2 s2
        | ok fl st1 =>
          rw [he] at p
          cases fl with
          | next qs =>
            intro f1 H1 t1 s1 σ' _
            obtain ⟨f2, t2, s2, r2⟩ := trunc_ok so t1 s1 (.non : Rep K f1 H1 .non .non)
            exact p f2 H1 t2 s2 _ r2
          | ret v =>
            intro f1 H1 t1 s1 u ru
            obtain ⟨f2, t2, s2, r2⟩ := trunc_ok so t1 s1 ru
            exact p f2 H1 t2 s2 _ r2
      · exact p.elim
end
end Wf
/-! A law's end: the head's facts, the run of the core. -/
namespace Wf
open PySem PySem.Spec PyProof.Rows L2
theorem walk_ofX {l : PySem.W.OpenLaw} {n k : Nat} {q : Program} {loose : List Str} {XP : (Str → Option Value) → Heap → Prop} {YP : World → Heap → Prop} {d : DefRec} {CX : World → CXT} {x : Str}
    (hn : l.most = some n) (hn2 : n ≤ sizeLine) (hdf : d.params.defaults = []) (hr : Room k callerA)
    (F : ∀ (w : World) (mg : Str → Option Value) (fa : Addr) (h : Heap), YP w h → h.Ns mainGlobals mg → mg d.name = some (.ref fa) →
      ∃ (K : PySem.W.Frag) (fd : FuncData) (sp : Sp), K.In h ∧ (∀ (s : Shared) (u : Value), BindsTo s fd ⟨[u], []⟩ [(x, u)]) ∧
        (∀ (H : Hp) (a : Addr) (ns : List Int), ns.length ≤ n → Only H → SqL K H a (ns.map V.int) → sp [.ref a] H (fun v _ => v = .bl true) fun _ _ _ => False) ∧
        ∀ base : Heap, K.In base → base.Ns mainGlobals mg → FnOk l.prog w K mg base (CX w) k fa fd [x] sp)
    (hCX : ∀ (w : World) (H : Hp) (s : Shared) (e : Value) (s' : Shared), CX w [] H s (fun _ _ _ => False) e s' → False) :
    PySem.W.WalkO q loose XP YP l.row.toRowW d [] (fun f vs => PySem.call f vs) := by
  refine Att.attach_call hn hdf fun w s₀ s₁ mg mb fa o pm cd doc a vs ns G Y ho hd hcd hmg hobj hints hlen hg => ?_
  obtain ⟨K, fd, sp, KX, hb, hsp, hF⟩ := F w mg fa _ Y G.T.g hmg
  exact law_call KX G.T.g G.T.b G.T.builtins G.T.nolimit hg hobj hints (Nat.le_trans hlen hn2) hr hF hb (fun H hO hS => hsp H a ns hlen hO hS) fun H e s' => hCX w H s₁ e s'
theorem noCX (P : Program) (w : World) (H : Hp) (s : Shared) (e : Value) (s' : Shared) (h : L2.CX P w [] H s (fun _ _ _ => False) e s') : False := by
  obtain ⟨_, _, _, _, _, _, _, _, _, _, _, _, z⟩ := h
  exact z
/-- the facts that are asked of the head -/
def gFa (x : Str) : He.Fa := if x = "WORDS" then .str x "abcd" else if x = "DEEP" then .int x 3 else .str x "!"
def faOf (fns excs gs : List Str) : List He.Fa := fns.map He.Fa.glo ++ bNames.map He.Fa.free ++ excs.map He.Fa.glo ++ excs.map He.Fa.exc ++ gs.map gFa
def cvOf (K : PySem.W.Frag) : Nat → Value := fun i => .ref (He.ga K (excNames.getD i ""))
theorem facts_of {P : Program} {w : World} {K : PySem.W.Frag} {h : Heap} {mg : Str → Option Value} {base : Heap} {fn : List He.DefD} {fns excs gs : List Str} (c : He.SaysD (faOf fns excs gs) fn K) (X : K.In h) (G : h.Ns mainGlobals mg) :
    Facts P w K mg base fn fns excs gs (cvOf K) where
  defs := fun d hd => c.defs hd
  glo := fun x hx => He.glo_ok X G (c.facts (by unfold faOf; simp only [List.mem_append, List.mem_map]; exact .inl (.inl (.inl (.inl ⟨x, hx, rfl⟩)))))
  bi := fun x hx => He.free_ok X G (c.facts (by unfold faOf; simp only [List.mem_append, List.mem_map]; exact .inl (.inl (.inl (.inr ⟨x, hx, rfl⟩)))))
  gc := fun x v hx hv => by
    have hf : (gFa x).ok K = true := c.facts (by unfold faOf; simp only [List.mem_append, List.mem_map]; exact .inr ⟨x, hx, rfl⟩)
    unfold gconst at hv
    unfold gFa at hf
    split at hv
    · rename_i e
      cases hv
      rw [if_pos e] at hf
      obtain ⟨t, e2⟩ := He.str_ok X G hf
      refine ⟨_, .str "abcd", e2, ⟨t, rfl⟩, fun f H => ?_⟩
      have : ("abcd" : Str) = ⟨([97, 98, 99, 100] : List Nat).toArray⟩ := by decide +kernel
      rw [this]
      exact .str _
    · rename_i e
      rw [if_neg e] at hf
      split at hv
      · rename_i e1
        cases hv
        rw [if_pos e1] at hf
        obtain ⟨t, e2⟩ := He.int_ok X G hf
        exact ⟨_, .int 3, e2, ⟨t, rfl⟩, fun f H => .int 3⟩
      · rename_i e1
        rw [if_neg e1] at hf
        split at hv
        · cases hv
          obtain ⟨t, e2⟩ := He.str_ok X G hf
          refine ⟨_, .str "!", e2, ⟨t, rfl⟩, fun f H => ?_⟩
          have : ("!" : Str) = ⟨([33] : List Nat).toArray⟩ := by decide +kernel
          rw [this]
          exact .str _
        · cases hv
  exc := fun x i hx hi => by
    have h1 := He.glo_ok X G (c.facts (f := .glo x) (by unfold faOf; simp only [List.mem_append, List.mem_map]; exact .inl (.inl (.inr ⟨x, hx, rfl⟩))))
    obtain ⟨h2, h3, h4, h5⟩ := He.exc_ok (c.facts (f := .exc x) (by unfold faOf; simp only [List.mem_append, List.mem_map]; exact .inl (.inr ⟨x, hx, rfl⟩)))
    have e : excNames.getD i "" = x := by rw [List.getD_eq_getElem?_getD, idx_get hi]; rfl
    exact ⟨_, by unfold cvOf; rw [e], h1, h2, h3, h4, h5⟩
theorem reps_ints {K : PySem.W.Frag} {f : Fm} {H : Hp} : ∀ ns : List Int, Reps K f H (ns.map PV.int) (ns.map V.int)
  | [] => .nil
  | n :: ns => .cons (.int n) (reps_ints ns)
theorem law_F {P : Program} {fn : List He.DefD} {fns excs gs : List Str} {T : Nat → Option FDef} (D : ∀ x ∈ fns, ∃ ps, DefOk fn fns excs gs T x ps) (hl : ("law" : Str) ∈ fns) (DL : DefOk fn fns excs gs T "law" ["script"])
    (hrun : ∀ ns : List Int, ns.length ≤ 63 → ∃ W st, run T W 40 0 [.scr (ns.map .int)] [] = .ok (.bl true) st)
    (w : World) (mg : Str → Option Value) (fa : Addr) (h : Heap) {K : PySem.W.Frag} (KX : K.In h) (c : He.SaysD (faOf fns excs gs) fn K) (G : h.Ns mainGlobals mg) (hmg : mg ("law" : Str) = some (.ref fa)) :
      ∃ (K : PySem.W.Frag) (fd : FuncData) (sp : Sp), K.In h ∧ (∀ (s : Shared) (u : Value), BindsTo s fd ⟨[u], []⟩ [("script", u)]) ∧
        (∀ (H : Hp) (a : Addr) (ns : List Int), ns.length ≤ 63 → Only H → SqL K H a (ns.map V.int) → sp [.ref a] H (fun v _ => v = .bl true) fun _ _ _ => False) ∧
        ∀ base : Heap, K.In base → base.Ns mainGlobals mg → FnOk P w K mg base (L2.CX P w) 40 fa fd ["script"] sp := by
  obtain ⟨i, d, N, muts, b, e1, e2, e3, e4, e5, e6, S, hb⟩ := id DL.ex
  obtain ⟨fd, G1⟩ := c.defs e2
  rw [e3] at G1
  have dv : d.dvs K = [] := by unfold He.DefD.dvs; rw [e4]; rfl
  rw [dv] at G1
  have hi0 : fnNames.idxOf? ("law" : Str) = some 0 := by decide +kernel
  have hfa : fa = He.fAd K ("law", none) := by
    have := (facts_of (P := P) (w := w) (base := h) c KX G).glo "law" hl
    rw [hmg] at this
    injection this with t1
    injection t1
  refine ⟨K, fd, fun vs H Q E => ∃ W, spOf K (cvOf K) (run T W 40) 0 vs H Q E, KX, fun s u => FunD.bindsA G1 hb s [u] rfl, fun H a ns hn hO hS => ?_, fun base hK hB => ?_⟩
  · obtain ⟨W, st, hr⟩ := hrun ns hn
    refine ⟨W, ⟨[], []⟩, [.scr (ns.map .int)], [], ⟨rfl, by simp, fun n a o h1 h2 => by simp at h1, fun a ha => by simp at ha⟩, .cons ?_ .nil, ?_⟩
    · rcases hS with h1 | h1
      · exact .scr h1 (by unfold Fm.bar; simp) (reps_ints ns)
      · exact .scrK h1 (reps_ints ns)
    · rw [hr]
      intro f' H' _ _ v rv
      cases rv
      rfl
  · have all : ∀ W, FnOk P w K mg base (L2.CX P w) 40 fa fd ["script"] (spOf K (cvOf K) (run T W 40) 0) := fun W => by
      obtain ⟨f, fd', ⟨oc, od, osl, lk⟩, h1, h2, h3, h4⟩ := all_fn (P := P) (w := w) (W := W) (facts_of (base := base) c hK hB) D 40 "law" ["script"] 0 hl DL hi0
      rw [hmg] at h1
      cases h1
      obtain ⟨oc2, od2, _, _, _, _, _, _, _, osl2, _, lk2, _⟩ := G1.ex
      rw [← hfa, lk] at lk2
      injection lk2 with q1
      injection q1 with _ _ q2 _
      injection q2 with q3
      rw [← q3]
      exact h4
    exact ⟨fun vs H Q E ⟨W, q⟩ => (all W).len vs H Q E q, fun A outer s H args us vs Q E hr he hbb hv ⟨W, q⟩ => (all W).run A outer s H args us vs Q E hr he hbb hv q⟩
theorem room40 : Room 40 callerA := ⟨rfl, by decide, by decide⟩
/-! ### the program's defs as the head sees them -/
def defsIn : Stmt → List He.DefD
  | .FunctionDef n a b _ _ _ sc _ _ _ => [⟨(n, none), n, n, a, b, sc, [], []⟩]
  | _ => []
def fnOfP (P : Program) : List He.DefD := P.main.body.flatMap defsIn
def namesOfP (P : Program) : List Str := P.main.body.flatMap fun s => match s with | .FunctionDef n _ _ _ _ _ _ _ _ _ => [n] | _ => []
def looseOf (P : Program) : List Str := (P.main.scope.names.map (·.1)).filter fun n => n != "law"
end Wf
/-! The core bodies of the defs (printed by wip/tools). -/
namespace Wf
def D_is_between : FDef := ⟨3, 3, CS.ret (CE.and_ (CE.isi (CE.var 0) (Ty.int)) (CE.and_ (CE.not_ (CE.isi (CE.var 0) (Ty.bool))) (CE.chain (Op.le) (Op.le) (CE.var 1) (CE.var 0) (CE.var 2))))⟩
def D_are_words : FDef := ⟨3, 4, CS.ret (CE.and_ (CE.isi (CE.var 0) (Ty.str)) (CE.and_ (CE.chain (Op.le) (Op.le) (CE.var 1) (CE.b1 (B1.len) (CE.var 0)) (CE.var 2)) (CE.b1 (B1.all) (CE.comp (CE.op (Op.in_) (CE.var 3) (CE.cst (PV.str [97, 98, 99, 100]))) (Tg.one 3) (CI.seq (CE.var 0)) (CEo.none) [3]))))⟩
def D_is_simple : FDef := ⟨1, 4, CS.seq (CS.par 1 2 (CE.ix (CE.var 0) (CE.cst (PV.int 0))) (CE.sl (CE.var 0) (CEo.some (CE.cst (PV.int 1))) (CEo.none))) (CS.seq (CS.if_ (CE.op (Op.in_) (CE.var 1) (CE.tup (CEs.cons (CE.cst (PV.str [119, 111, 114, 100])) (CEs.cons (CE.cst (PV.str [98, 101, 103, 105, 110])) (CEs.cons (CE.cst (PV.str [101, 110, 100])) (CEs.nil)))))) (CS.ret (CE.and_ (CE.op (Op.eq) (CE.b1 (B1.len) (CE.var 2)) (CE.cst (PV.int 1))) (CE.call 13 (CEs.cons (CE.ix (CE.var 2) (CE.cst (PV.int 0))) (CEs.cons (CE.cst (PV.int 1)) (CEs.cons (CE.cst (PV.int 1)) (CEs.nil))))))) (CS.skip)) (CS.seq (CS.if_ (CE.op (Op.eq) (CE.var 1) (CE.cst (PV.str [114, 111, 119]))) (CS.ret (CE.and_ (CE.op (Op.eq) (CE.b1 (B1.len) (CE.var 2)) (CE.cst (PV.int 1))) (CE.call 13 (CEs.cons (CE.ix (CE.var 2) (CE.cst (PV.int 0))) (CEs.cons (CE.cst (PV.int 2)) (CEs.cons (CE.cst (PV.int 3)) (CEs.nil))))))) (CS.skip)) (CS.seq (CS.if_ (CE.op (Op.in_) (CE.var 1) (CE.tup (CEs.cons (CE.cst (PV.str [110, 101, 97, 114])) (CEs.cons (CE.cst (PV.str [98, 101, 102, 111, 114, 101])) (CEs.nil))))) (CS.ret (CE.and_ (CE.op (Op.eq) (CE.b1 (B1.len) (CE.var 2)) (CE.cst (PV.int 3))) (CE.and_ (CE.b1 (B1.all) (CE.comp (CE.call 13 (CEs.cons (CE.var 3) (CEs.cons (CE.cst (PV.int 1)) (CEs.cons (CE.cst (PV.int 1)) (CEs.nil))))) (Tg.one 3) (CI.seq (CE.sl (CE.var 2) (CEo.none) (CEo.some (CE.cst (PV.int 2))))) (CEo.none) [3])) (CE.call 12 (CEs.cons (CE.ix (CE.var 2) (CE.cst (PV.int 2))) (CEs.cons (CE.cst (PV.int 0)) (CEs.cons (CE.cst (PV.int 2)) (CEs.nil)))))))) (CS.skip)) (CS.ret (CE.and_ (CE.op (Op.eq) (CE.var 1) (CE.cst (PV.str [111, 102, 116, 101, 110]))) (CE.and_ (CE.op (Op.eq) (CE.b1 (B1.len) (CE.var 2)) (CE.cst (PV.int 2))) (CE.and_ (CE.call 13 (CEs.cons (CE.ix (CE.var 2) (CE.cst (PV.int 0))) (CEs.cons (CE.cst (PV.int 1)) (CEs.cons (CE.cst (PV.int 1)) (CEs.nil))))) (CE.call 12 (CEs.cons (CE.ix (CE.var 2) (CE.cst (PV.int 1))) (CEs.cons (CE.cst (PV.int 2)) (CEs.cons (CE.cst (PV.int 3)) (CEs.nil))))))))))))⟩
def D_is_at_most : FDef := ⟨2, 3, CS.seq (CS.if_ (CE.or_ (CE.op (Op.lt) (CE.var 1) (CE.cst (PV.int 1))) (CE.or_ (CE.not_ (CE.isi (CE.var 0) (Ty.tuple))) (CE.or_ (CE.op (Op.lt) (CE.b1 (B1.len) (CE.var 0)) (CE.cst (PV.int 2))) (CE.not_ (CE.isi (CE.ix (CE.var 0) (CE.cst (PV.int 0))) (Ty.str)))))) (CS.ret (CE.cst (PV.bl false))) (CS.skip)) (CS.seq (CS.if_ (CE.op (Op.eq) (CE.ix (CE.var 0) (CE.cst (PV.int 0))) (CE.cst (PV.str [110, 111, 116]))) (CS.ret (CE.and_ (CE.op (Op.eq) (CE.b1 (B1.len) (CE.var 0)) (CE.cst (PV.int 2))) (CE.call 15 (CEs.cons (CE.ix (CE.var 0) (CE.cst (PV.int 1))) (CEs.cons (CE.op (Op.sub) (CE.var 1) (CE.cst (PV.int 1))) (CEs.nil)))))) (CS.skip)) (CS.seq (CS.if_ (CE.op (Op.in_) (CE.ix (CE.var 0) (CE.cst (PV.int 0))) (CE.tup (CEs.cons (CE.cst (PV.str [97, 110, 100])) (CEs.cons (CE.cst (PV.str [111, 114])) (CEs.nil))))) (CS.ret (CE.and_ (CE.op (Op.eq) (CE.b1 (B1.len) (CE.var 0)) (CE.cst (PV.int 3))) (CE.b1 (B1.all) (CE.comp (CE.call 15 (CEs.cons (CE.var 2) (CEs.cons (CE.op (Op.sub) (CE.var 1) (CE.cst (PV.int 1))) (CEs.nil)))) (Tg.one 2) (CI.seq (CE.sl (CE.var 0) (CEo.some (CE.cst (PV.int 1))) (CEo.none))) (CEo.none) [2])))) (CS.skip)) (CS.ret (CE.call 14 (CEs.cons (CE.var 0) (CEs.nil))))))⟩
def D_is_question : FDef := ⟨1, 1, CS.ret (CE.call 15 (CEs.cons (CE.var 0) (CEs.cons (CE.cst (PV.int 3)) (CEs.nil))))⟩
def D_check_question : FDef := ⟨1, 1, CS.if_ (CE.not_ (CE.call 16 (CEs.cons (CE.var 0) (CEs.nil)))) (CS.raise_ 0) (CS.skip)⟩
def D_check_text : FDef := ⟨1, 1, CS.if_ (CE.not_ (CE.call 13 (CEs.cons (CE.var 0) (CEs.cons (CE.cst (PV.int 0)) (CEs.cons (CE.cst (PV.int 60)) (CEs.nil)))))) (CS.raise_ 1) (CS.skip)⟩
def D_depth_of : FDef := ⟨1, 1, CS.seq (CS.if_ (CE.op (Op.eq) (CE.ix (CE.var 0) (CE.cst (PV.int 0))) (CE.cst (PV.str [110, 111, 116]))) (CS.ret (CE.op (Op.add) (CE.cst (PV.int 1)) (CE.call 19 (CEs.cons (CE.ix (CE.var 0) (CE.cst (PV.int 1))) (CEs.nil))))) (CS.skip)) (CS.seq (CS.if_ (CE.op (Op.in_) (CE.ix (CE.var 0) (CE.cst (PV.int 0))) (CE.tup (CEs.cons (CE.cst (PV.str [97, 110, 100])) (CEs.cons (CE.cst (PV.str [111, 114])) (CEs.nil))))) (CS.ret (CE.op (Op.add) (CE.cst (PV.int 1)) (CE.b2 (B2.max) (CE.call 19 (CEs.cons (CE.ix (CE.var 0) (CE.cst (PV.int 1))) (CEs.nil))) (CE.call 19 (CEs.cons (CE.ix (CE.var 0) (CE.cst (PV.int 2))) (CEs.nil)))))) (CS.skip)) (CS.ret (CE.cst (PV.int 1))))⟩
def D_depth : FDef := ⟨1, 1, CS.seq (CS.expr (CE.call 17 (CEs.cons (CE.var 0) (CEs.nil)))) (CS.ret (CE.call 19 (CEs.cons (CE.var 0) (CEs.nil))))⟩
def D_are_close : FDef := ⟨4, 6, CS.ret (CE.b1 (B1.any) (CE.comp (CE.and_ (CE.op (Op.eq) (CE.var 5) (CE.var 1)) (CE.op (Op.in_) (CE.var 2) (CE.sl (CE.var 0) (CEo.some (CE.op (Op.add) (CE.var 4) (CE.cst (PV.int 1)))) (CEo.some (CE.op (Op.add) (CE.op (Op.add) (CE.var 4) (CE.cst (PV.int 2))) (CE.var 3)))))) (Tg.many [4, 5]) (CI.enum (CE.var 0)) (CEo.none) [4, 5]))⟩
def D_does_find : FDef := ⟨2, 4, CS.seq (CS.set 2 (CE.ix (CE.var 0) (CE.cst (PV.int 0)))) (CS.seq (CS.if_ (CE.op (Op.eq) (CE.var 2) (CE.cst (PV.str [110, 111, 116]))) (CS.ret (CE.not_ (CE.call 22 (CEs.cons (CE.ix (CE.var 0) (CE.cst (PV.int 1))) (CEs.cons (CE.var 1) (CEs.nil)))))) (CS.skip)) (CS.seq (CS.if_ (CE.op (Op.eq) (CE.var 2) (CE.cst (PV.str [97, 110, 100]))) (CS.ret (CE.and_ (CE.call 22 (CEs.cons (CE.ix (CE.var 0) (CE.cst (PV.int 1))) (CEs.cons (CE.var 1) (CEs.nil)))) (CE.call 22 (CEs.cons (CE.ix (CE.var 0) (CE.cst (PV.int 2))) (CEs.cons (CE.var 1) (CEs.nil)))))) (CS.skip)) (CS.seq (CS.if_ (CE.op (Op.eq) (CE.var 2) (CE.cst (PV.str [111, 114]))) (CS.ret (CE.or_ (CE.call 22 (CEs.cons (CE.ix (CE.var 0) (CE.cst (PV.int 1))) (CEs.cons (CE.var 1) (CEs.nil)))) (CE.call 22 (CEs.cons (CE.ix (CE.var 0) (CE.cst (PV.int 2))) (CEs.cons (CE.var 1) (CEs.nil)))))) (CS.skip)) (CS.seq (CS.set 3 (CE.ix (CE.var 0) (CE.cst (PV.int 1)))) (CS.seq (CS.if_ (CE.op (Op.in_) (CE.var 2) (CE.tup (CEs.cons (CE.cst (PV.str [119, 111, 114, 100])) (CEs.cons (CE.cst (PV.str [114, 111, 119])) (CEs.nil))))) (CS.ret (CE.op (Op.in_) (CE.var 3) (CE.var 1))) (CS.skip)) (CS.seq (CS.if_ (CE.op (Op.eq) (CE.var 2) (CE.cst (PV.str [98, 101, 103, 105, 110]))) (CS.ret (CE.op (Op.eq) (CE.sl (CE.var 1) (CEo.none) (CEo.some (CE.cst (PV.int 1)))) (CE.var 3))) (CS.skip)) (CS.seq (CS.if_ (CE.op (Op.eq) (CE.var 2) (CE.cst (PV.str [101, 110, 100]))) (CS.ret (CE.op (Op.eq) (CE.sl (CE.var 1) (CEo.some (CE.neg (CE.cst (PV.int 1)))) (CEo.none)) (CE.var 3))) (CS.skip)) (CS.seq (CS.if_ (CE.op (Op.eq) (CE.var 2) (CE.cst (PV.str [111, 102, 116, 101, 110]))) (CS.ret (CE.op (Op.ge) (CE.m1 (M1.count) (CE.var 1) (CE.var 3)) (CE.ix (CE.var 0) (CE.cst (PV.int 2))))) (CS.skip)) (CS.seq (CS.if_ (CE.and_ (CE.op (Op.eq) (CE.var 2) (CE.cst (PV.str [110, 101, 97, 114]))) (CE.call 21 (CEs.cons (CE.var 1) (CEs.cons (CE.ix (CE.var 0) (CE.cst (PV.int 2))) (CEs.cons (CE.var 3) (CEs.cons (CE.ix (CE.var 0) (CE.cst (PV.int 3))) (CEs.nil))))))) (CS.ret (CE.cst (PV.bl true))) (CS.skip)) (CS.ret (CE.call 21 (CEs.cons (CE.var 1) (CEs.cons (CE.var 3) (CEs.cons (CE.ix (CE.var 0) (CE.cst (PV.int 2))) (CEs.cons (CE.ix (CE.var 0) (CE.cst (PV.int 3))) (CEs.nil))))))))))))))))⟩
def D_finds : FDef := ⟨2, 2, CS.seq (CS.expr (CE.call 17 (CEs.cons (CE.var 0) (CEs.nil)))) (CS.seq (CS.expr (CE.call 18 (CEs.cons (CE.var 1) (CEs.nil)))) (CS.ret (CE.call 22 (CEs.cons (CE.var 0) (CEs.cons (CE.var 1) (CEs.nil))))))⟩
def D_found_among : FDef := ⟨2, 3, CS.seq (CS.expr (CE.call 17 (CEs.cons (CE.var 0) (CEs.nil)))) (CS.seq (CS.if_ (CE.or_ (CE.not_ (CE.isi (CE.var 1) (Ty.tuple))) (CE.or_ (CE.op (Op.gt) (CE.b1 (B1.len) (CE.var 1)) (CE.cst (PV.int 20))) (CE.not_ (CE.b1 (B1.all) (CE.comp (CE.call 13 (CEs.cons (CE.var 2) (CEs.cons (CE.cst (PV.int 0)) (CEs.cons (CE.cst (PV.int 60)) (CEs.nil))))) (Tg.one 2) (CI.seq (CE.var 1)) (CEo.none) [2]))))) (CS.raise_ 2) (CS.skip)) (CS.ret (CE.b1 (B1.tuple) (CE.comp (CE.var 2) (Tg.one 2) (CI.seq (CE.var 1)) (CEo.some (CE.call 22 (CEs.cons (CE.var 0) (CEs.cons (CE.var 2) (CEs.nil))))) [2]))))⟩
def D__law_town : FDef := ⟨1, 1, CS.ret (CE.newcat (CE.lst (CEs.cons (CE.cst (PV.int 0)) (CEs.nil))) (CE.b1 (B1.list) (CE.var 0)))⟩
def D__law_draw : FDef := ⟨3, 6, CS.seq (CS.ixset (CE.var 1) (CE.cst (PV.int 0)) (CE.op (Op.add) (CE.ix (CE.var 1) (CE.cst (PV.int 0))) (CE.cst (PV.int 1)))) (CS.seq (CS.if_ (CE.op (Op.eq) (CE.var 0) (CE.lst (CEs.nil))) (CS.ret (CE.op (Op.mod) (CE.op (Op.fdiv) (CE.op (Op.mul) (CE.op (Op.mul) (CE.ix (CE.var 1) (CE.cst (PV.int 0))) (CE.ix (CE.var 1) (CE.cst (PV.int 0)))) (CE.cst (PV.int 7))) (CE.cst (PV.int 3))) (CE.var 2))) (CS.skip)) (CS.seq (CS.set 3 (CE.op (Op.mod) (CE.ix (CE.var 1) (CE.cst (PV.int 0))) (CE.b1 (B1.len) (CE.var 0)))) (CS.seq (CS.set 4 (CE.ix (CE.var 1) (CE.op (Op.add) (CE.cst (PV.int 1)) (CE.var 3)))) (CS.seq (CS.if_ (CE.and_ (CE.op (Op.ge) (CE.ix (CE.var 0) (CE.var 3)) (CE.op (Op.pow) (CE.cst (PV.int 10)) (CE.cst (PV.int 18)))) (CE.op (Op.gt) (CE.var 4) (CE.cst (PV.int 0)))) (CS.seq (CS.ixset (CE.var 1) (CE.op (Op.add) (CE.cst (PV.int 1)) (CE.var 3)) (CE.op (Op.fdiv) (CE.var 4) (CE.var 2))) (CS.ret (CE.op (Op.mod) (CE.var 4) (CE.var 2)))) (CS.skip)) (CS.seq (CS.set 5 (CE.op (Op.mod) (CE.op (Op.add) (CE.ix (CE.var 0) (CE.var 3)) (CE.op (Op.mul) (CE.cst (PV.int 104729)) (CE.ix (CE.var 1) (CE.cst (PV.int 0))))) (CE.cst (PV.int 4294967291)))) (CS.seq (CS.set 5 (CE.op (Op.mod) (CE.op (Op.pow) (CE.var 5) (CE.cst (PV.int 5))) (CE.cst (PV.int 4294967279)))) (CS.ret (CE.op (Op.mod) (CE.op (Op.fdiv) (CE.op (Op.mod) (CE.op (Op.add) (CE.op (Op.mul) (CE.op (Op.fdiv) (CE.var 5) (CE.cst (PV.int 64))) (CE.cst (PV.int 69621))) (CE.var 5)) (CE.cst (PV.int 4294967231))) (CE.cst (PV.int 8))) (CE.var 2)))))))))⟩
def D__law_pick : FDef := ⟨3, 3, CS.ret (CE.ix (CE.var 2) (CE.call 2 (CEs.cons (CE.var 0) (CEs.cons (CE.var 1) (CEs.cons (CE.b1 (B1.len) (CE.var 2)) (CEs.nil))))))⟩
def D__law_word : FDef := ⟨2, 2, CS.ret (CE.ix (CE.cst (PV.str [97, 98, 99, 100])) (CE.call 2 (CEs.cons (CE.var 0) (CEs.cons (CE.var 1) (CEs.cons (CE.call 3 (CEs.cons (CE.var 0) (CEs.cons (CE.var 1) (CEs.cons (CE.lst (CEs.cons (CE.cst (PV.int 2)) (CEs.cons (CE.cst (PV.int 3)) (CEs.cons (CE.cst (PV.int 4)) (CEs.nil))))) (CEs.nil))))) (CEs.nil))))))⟩
def D__law_simple : FDef := ⟨2, 5, CS.seq (CS.par3 2 3 4 (CE.call 2 (CEs.cons (CE.var 0) (CEs.cons (CE.var 1) (CEs.cons (CE.cst (PV.int 7)) (CEs.nil))))) (CE.call 4 (CEs.cons (CE.var 0) (CEs.cons (CE.var 1) (CEs.nil)))) (CE.call 4 (CEs.cons (CE.var 0) (CEs.cons (CE.var 1) (CEs.nil))))) (CS.seq (CS.if_ (CE.op (Op.lt) (CE.var 2) (CE.cst (PV.int 2))) (CS.ret (CE.tup (CEs.cons (CE.cst (PV.str [114, 111, 119])) (CEs.cons (CE.op (Op.add) (CE.op (Op.add) (CE.var 3) (CE.var 4)) (CE.call 3 (CEs.cons (CE.var 0) (CEs.cons (CE.var 1) (CEs.cons (CE.lst (CEs.cons (CE.cst (PV.str [])) (CEs.cons (CE.call 4 (CEs.cons (CE.var 0) (CEs.cons (CE.var 1) (CEs.nil)))) (CEs.nil)))) (CEs.nil)))))) (CEs.nil))))) (CS.skip)) (CS.seq (CS.if_ (CE.op (Op.lt) (CE.var 2) (CE.cst (PV.int 4))) (CS.ret (CE.tup (CEs.cons (CE.ix (CE.tup (CEs.cons (CE.cst (PV.str [110, 101, 97, 114])) (CEs.cons (CE.cst (PV.str [98, 101, 102, 111, 114, 101])) (CEs.nil)))) (CE.op (Op.sub) (CE.var 2) (CE.cst (PV.int 2)))) (CEs.cons (CE.var 3) (CEs.cons (CE.var 4) (CEs.cons (CE.call 2 (CEs.cons (CE.var 0) (CEs.cons (CE.var 1) (CEs.cons (CE.cst (PV.int 3)) (CEs.nil))))) (CEs.nil))))))) (CS.skip)) (CS.seq (CS.if_ (CE.op (Op.eq) (CE.var 2) (CE.cst (PV.int 4))) (CS.ret (CE.tup (CEs.cons (CE.cst (PV.str [111, 102, 116, 101, 110])) (CEs.cons (CE.var 3) (CEs.cons (CE.op (Op.add) (CE.cst (PV.int 2)) (CE.call 2 (CEs.cons (CE.var 0) (CEs.cons (CE.var 1) (CEs.cons (CE.cst (PV.int 2)) (CEs.nil)))))) (CEs.nil)))))) (CS.skip)) (CS.ret (CE.tup (CEs.cons (CE.ix (CE.tup (CEs.cons (CE.cst (PV.str [98, 101, 103, 105, 110])) (CEs.cons (CE.cst (PV.str [101, 110, 100])) (CEs.cons (CE.cst (PV.str [119, 111, 114, 100])) (CEs.nil))))) (CE.call 2 (CEs.cons (CE.var 0) (CEs.cons (CE.var 1) (CEs.cons (CE.cst (PV.int 3)) (CEs.nil)))))) (CEs.cons (CE.var 3) (CEs.nil))))))))⟩
def D__law_question : FDef := ⟨3, 5, CS.seq (CS.set 3 (CE.call 2 (CEs.cons (CE.var 0) (CEs.cons (CE.var 1) (CEs.cons (CE.cst (PV.int 5)) (CEs.nil)))))) (CS.seq (CS.if_ (CE.or_ (CE.op (Op.eq) (CE.var 2) (CE.cst (PV.int 1))) (CE.op (Op.eq) (CE.var 3) (CE.cst (PV.int 0)))) (CS.ret (CE.call 5 (CEs.cons (CE.var 0) (CEs.cons (CE.var 1) (CEs.nil))))) (CS.skip)) (CS.seq (CS.if_ (CE.op (Op.eq) (CE.var 3) (CE.cst (PV.int 1))) (CS.ret (CE.tup (CEs.cons (CE.cst (PV.str [110, 111, 116])) (CEs.cons (CE.call 6 (CEs.cons (CE.var 0) (CEs.cons (CE.var 1) (CEs.cons (CE.op (Op.sub) (CE.var 2) (CE.cst (PV.int 1))) (CEs.nil))))) (CEs.nil))))) (CS.skip)) (CS.seq (CS.set 4 (CE.ix (CE.tup (CEs.cons (CE.cst (PV.str [97, 110, 100])) (CEs.cons (CE.cst (PV.str [111, 114])) (CEs.nil)))) (CE.call 2 (CEs.cons (CE.var 0) (CEs.cons (CE.var 1) (CEs.cons (CE.cst (PV.int 2)) (CEs.nil))))))) (CS.ret (CE.tup (CEs.cons (CE.var 4) (CEs.cons (CE.call 6 (CEs.cons (CE.var 0) (CEs.cons (CE.var 1) (CEs.cons (CE.op (Op.sub) (CE.var 2) (CE.cst (PV.int 1))) (CEs.nil))))) (CEs.cons (CE.call 6 (CEs.cons (CE.var 0) (CEs.cons (CE.var 1) (CEs.cons (CE.op (Op.sub) (CE.var 2) (CE.cst (PV.int 1))) (CEs.nil))))) (CEs.nil)))))))))⟩
def D__law_text : FDef := ⟨3, 4, CS.ret (CE.m1 (M1.join) (CE.cst (PV.str [])) (CE.comp (CE.call 4 (CEs.cons (CE.var 0) (CEs.cons (CE.var 1) (CEs.nil)))) (Tg.one 3) (CI.rng (CE.call 2 (CEs.cons (CE.var 0) (CEs.cons (CE.var 1) (CEs.cons (CE.op (Op.add) (CE.var 2) (CE.cst (PV.int 1))) (CEs.nil)))))) (CEo.none) [3]))⟩
def D__law_finds : FDef := ⟨2, 11, CS.seq (CS.setT [5, 6] (CE.tup (CEs.cons (CE.ix (CE.var 0) (CE.cst (PV.int 0))) (CEs.cons (CE.sl (CE.var 0) (CEo.some (CE.cst (PV.int 1))) (CEo.none)) (CEs.nil))))) (CS.seq (CS.if_ (CE.op (Op.in_) (CE.var 5) (CE.tup (CEs.cons (CE.cst (PV.str [110, 111, 116])) (CEs.cons (CE.cst (PV.str [97, 110, 100])) (CEs.cons (CE.cst (PV.str [111, 114])) (CEs.nil)))))) (CS.seq (CS.set 7 (CE.comp (CE.call 8 (CEs.cons (CE.var 9) (CEs.cons (CE.var 1) (CEs.nil)))) (Tg.one 9) (CI.seq (CE.var 6)) (CEo.none) [9])) (CS.ret (CE.dsub [[110, 111, 116], [97, 110, 100], [111, 114]] (CEs.cons (CE.not_ (CE.ix (CE.var 7) (CE.cst (PV.int 0)))) (CEs.cons (CE.op (Op.nin) (CE.cst (PV.bl false)) (CE.var 7)) (CEs.cons (CE.op (Op.in_) (CE.cst (PV.bl true)) (CE.var 7)) (CEs.nil)))) (CE.var 5)))) (CS.skip)) (CS.seq (CS.set 2 (CE.comp (CE.var 4) (Tg.one 4) (CI.rng (CE.b1 (B1.len) (CE.var 1))) (CEo.some (CE.op (Op.eq) (CE.ix (CE.var 1) (CE.var 4)) (CE.ix (CE.var 6) (CE.cst (PV.int 0))))) [4])) (CS.seq (CS.if_ (CE.op (Op.eq) (CE.var 5) (CE.cst (PV.str [111, 102, 116, 101, 110]))) (CS.ret (CE.op (Op.ge) (CE.b1 (B1.len) (CE.var 2)) (CE.ix (CE.var 6) (CE.cst (PV.int 1))))) (CS.skip)) (CS.seq (CS.if_ (CE.op (Op.eq) (CE.var 5) (CE.cst (PV.str [114, 111, 119]))) (CS.ret (CE.op (Op.ne) (CE.comp (CE.var 10) (Tg.one 10) (CI.rng (CE.b1 (B1.len) (CE.var 1))) (CEo.some (CE.op (Op.eq) (CE.sl (CE.var 1) (CEo.some (CE.var 10)) (CEo.some (CE.op (Op.add) (CE.var 10) (CE.b1 (B1.len) (CE.ix (CE.var 6) (CE.cst (PV.int 0))))))) (CE.ix (CE.var 6) (CE.cst (PV.int 0))))) [10]) (CE.lst (CEs.nil)))) (CS.skip)) (CS.seq (CS.if_ (CE.or_ (CE.op (Op.eq) (CE.var 5) (CE.cst (PV.str [98, 101, 103, 105, 110]))) (CE.op (Op.eq) (CE.var 5) (CE.cst (PV.str [101, 110, 100])))) (CS.ret (CE.and_ (CE.op (Op.gt) (CE.b1 (B1.len) (CE.var 1)) (CE.cst (PV.int 0))) (CE.op (Op.eq) (CE.ix (CE.var 1) (CE.ite (CE.op (Op.eq) (CE.var 5) (CE.cst (PV.str [98, 101, 103, 105, 110]))) (CE.cst (PV.int 0)) (CE.op (Op.sub) (CE.b1 (B1.len) (CE.var 1)) (CE.cst (PV.int 1))))) (CE.ix (CE.var 6) (CE.cst (PV.int 0)))))) (CS.skip)) (CS.seq (CS.if_ (CE.op (Op.eq) (CE.var 5) (CE.cst (PV.str [119, 111, 114, 100]))) (CS.ret (CE.op (Op.ne) (CE.var 2) (CE.lst (CEs.nil)))) (CS.skip)) (CS.seq (CS.set 3 (CE.comp (CE.var 4) (Tg.one 4) (CI.rng (CE.b1 (B1.len) (CE.var 1))) (CEo.some (CE.op (Op.eq) (CE.ix (CE.var 1) (CE.var 4)) (CE.ix (CE.var 6) (CE.cst (PV.int 1))))) [4])) (CS.seq (CS.for_ (Tg.one 4) (CI.seq (CE.var 2)) (CS.seq (CS.set 8 (CE.op (Op.add) (CE.ix (CE.var 6) (CE.cst (PV.int 2))) (CE.cst (PV.int 1)))) (CS.if_ (CE.op (Op.ne) (CE.comp (CE.var 10) (Tg.one 10) (CI.seq (CE.var 3)) (CEo.some (CE.or_ (CE.chain (Op.lt) (Op.le) (CE.cst (PV.int 0)) (CE.op (Op.sub) (CE.var 10) (CE.var 4)) (CE.var 8)) (CE.and_ (CE.op (Op.eq) (CE.var 5) (CE.cst (PV.str [110, 101, 97, 114]))) (CE.chain (Op.lt) (Op.le) (CE.cst (PV.int 0)) (CE.op (Op.sub) (CE.var 4) (CE.var 10)) (CE.var 8))))) [10]) (CE.lst (CEs.nil))) (CS.ret (CE.cst (PV.bl true))) (CS.skip)))) (CS.ret (CE.cst (PV.bl false)))))))))))⟩
def D__law_depth : FDef := ⟨1, 2, CS.seq (CS.if_ (CE.op (Op.nin) (CE.ix (CE.var 0) (CE.cst (PV.int 0))) (CE.tup (CEs.cons (CE.cst (PV.str [110, 111, 116])) (CEs.cons (CE.cst (PV.str [97, 110, 100])) (CEs.cons (CE.cst (PV.str [111, 114])) (CEs.nil)))))) (CS.ret (CE.cst (PV.int 1))) (CS.skip)) (CS.ret (CE.op (Op.add) (CE.cst (PV.int 1)) (CE.b1 (B1.max) (CE.comp (CE.call 9 (CEs.cons (CE.var 1) (CEs.nil))) (Tg.one 1) (CI.seq (CE.sl (CE.var 0) (CEo.some (CE.cst (PV.int 1))) (CEo.none))) (CEo.none) [1]))))⟩
def D_law_k02 : FDef := ⟨1, 11, CS.seq (CS.set 1 (CE.call 1 (CEs.cons (CE.var 0) (CEs.nil)))) (CS.seq (CS.set 2 (CE.call 6 (CEs.cons (CE.var 0) (CEs.cons (CE.var 1) (CEs.cons (CE.cst (PV.int 3)) (CEs.nil)))))) (CS.seq (CS.set 3 (CE.b1 (B1.tuple) (CE.comp (CE.call 7 (CEs.cons (CE.var 0) (CEs.cons (CE.var 1) (CEs.cons (CE.cst (PV.int 9)) (CEs.nil))))) (Tg.one 10) (CI.rng (CE.cst (PV.int 12))) (CEo.none) [10]))) (CS.seq (CS.for_ (Tg.one 4) (CI.seq (CE.var 3)) (CS.if_ (CE.op (Op.ne) (CE.call 23 (CEs.cons (CE.var 2) (CEs.cons (CE.var 4) (CEs.nil)))) (CE.call 8 (CEs.cons (CE.var 2) (CEs.cons (CE.var 4) (CEs.nil))))) (CS.ret (CE.cst (PV.bl false))) (CS.skip))) (CS.seq (CS.if_ (CE.op (Op.ne) (CE.call 24 (CEs.cons (CE.var 2) (CEs.cons (CE.var 3) (CEs.nil)))) (CE.b1 (B1.tuple) (CE.comp (CE.var 4) (Tg.one 4) (CI.seq (CE.var 3)) (CEo.some (CE.call 8 (CEs.cons (CE.var 2) (CEs.cons (CE.var 4) (CEs.nil))))) [4]))) (CS.ret (CE.cst (PV.bl false))) (CS.skip)) (CS.seq (CS.if_ (CE.or_ (CE.op (Op.ne) (CE.call 20 (CEs.cons (CE.var 2) (CEs.nil))) (CE.call 9 (CEs.cons (CE.var 2) (CEs.nil)))) (CE.or_ (CE.op (Op.gt) (CE.call 20 (CEs.cons (CE.var 2) (CEs.nil))) (CE.cst (PV.int 3))) (CE.op (Op.ne) (CE.call 24 (CEs.cons (CE.var 2) (CEs.cons (CE.tup (CEs.nil)) (CEs.nil)))) (CE.tup (CEs.nil))))) (CS.ret (CE.cst (PV.bl false))) (CS.skip)) (CS.seq (CS.par 5 6 (CE.call 6 (CEs.cons (CE.var 0) (CEs.cons (CE.var 1) (CEs.cons (CE.cst (PV.int 2)) (CEs.nil))))) (CE.call 6 (CEs.cons (CE.var 0) (CEs.cons (CE.var 1) (CEs.cons (CE.cst (PV.int 2)) (CEs.nil)))))) (CS.seq (CS.for_ (Tg.one 4) (CI.seq (CE.var 3)) (CS.seq (CS.set 7 (CE.lst (CEs.cons (CE.call 23 (CEs.cons (CE.var 5) (CEs.cons (CE.var 4) (CEs.nil)))) (CEs.cons (CE.call 23 (CEs.cons (CE.var 6) (CEs.cons (CE.var 4) (CEs.nil)))) (CEs.nil))))) (CS.seq (CS.if_ (CE.or_ (CE.op (Op.ne) (CE.call 23 (CEs.cons (CE.tup (CEs.cons (CE.cst (PV.str [97, 110, 100])) (CEs.cons (CE.var 5) (CEs.cons (CE.var 6) (CEs.nil))))) (CEs.cons (CE.var 4) (CEs.nil)))) (CE.op (Op.eq) (CE.var 7) (CE.lst (CEs.cons (CE.cst (PV.bl true)) (CEs.cons (CE.cst (PV.bl true)) (CEs.nil)))))) (CE.op (Op.eq) (CE.call 23 (CEs.cons (CE.tup (CEs.cons (CE.cst (PV.str [110, 111, 116])) (CEs.cons (CE.var 5) (CEs.nil)))) (CEs.cons (CE.var 4) (CEs.nil)))) (CE.ix (CE.var 7) (CE.cst (PV.int 0))))) (CS.ret (CE.cst (PV.bl false))) (CS.skip)) (CS.if_ (CE.op (Op.ne) (CE.call 23 (CEs.cons (CE.tup (CEs.cons (CE.cst (PV.str [111, 114])) (CEs.cons (CE.var 5) (CEs.cons (CE.var 6) (CEs.nil))))) (CEs.cons (CE.var 4) (CEs.nil)))) (CE.op (Op.in_) (CE.cst (PV.bl true)) (CE.var 7))) (CS.ret (CE.cst (PV.bl false))) (CS.skip))))) (CS.seq (CS.par 8 9 (CE.call 4 (CEs.cons (CE.var 0) (CEs.cons (CE.var 1) (CEs.nil)))) (CE.call 4 (CEs.cons (CE.var 0) (CEs.cons (CE.var 1) (CEs.nil))))) (CS.seq (CS.for_ (Tg.one 4) (CI.seq (CE.var 3)) (CS.seq (CS.if_ (CE.op (Op.ne) (CE.call 23 (CEs.cons (CE.tup (CEs.cons (CE.cst (PV.str [110, 101, 97, 114])) (CEs.cons (CE.var 8) (CEs.cons (CE.var 9) (CEs.cons (CE.cst (PV.int 1)) (CEs.nil)))))) (CEs.cons (CE.var 4) (CEs.nil)))) (CE.call 23 (CEs.cons (CE.tup (CEs.cons (CE.cst (PV.str [111, 114])) (CEs.cons (CE.tup (CEs.cons (CE.cst (PV.str [98, 101, 102, 111, 114, 101])) (CEs.cons (CE.var 8) (CEs.cons (CE.var 9) (CEs.cons (CE.cst (PV.int 1)) (CEs.nil)))))) (CEs.cons (CE.tup (CEs.cons (CE.cst (PV.str [98, 101, 102, 111, 114, 101])) (CEs.cons (CE.var 9) (CEs.cons (CE.var 8) (CEs.cons (CE.cst (PV.int 1)) (CEs.nil)))))) (CEs.nil))))) (CEs.cons (CE.var 4) (CEs.nil))))) (CS.ret (CE.cst (PV.bl false))) (CS.skip)) (CS.if_ (CE.op (Op.ne) (CE.call 23 (CEs.cons (CE.tup (CEs.cons (CE.cst (PV.str [114, 111, 119])) (CEs.cons (CE.op (Op.add) (CE.var 8) (CE.var 9)) (CEs.nil)))) (CEs.cons (CE.var 4) (CEs.nil)))) (CE.call 23 (CEs.cons (CE.tup (CEs.cons (CE.cst (PV.str [98, 101, 102, 111, 114, 101])) (CEs.cons (CE.var 8) (CEs.cons (CE.var 9) (CEs.cons (CE.cst (PV.int 0)) (CEs.nil)))))) (CEs.cons (CE.var 4) (CEs.nil))))) (CS.ret (CE.cst (PV.bl false))) (CS.skip)))) (CS.ret (CE.cst (PV.bl true))))))))))))⟩
def D_check_size : FDef := ⟨2, 2, CS.if_ (CE.not_ (CE.call 12 (CEs.cons (CE.var 0) (CEs.cons (CE.cst (PV.int 0)) (CEs.cons (CE.var 1) (CEs.nil)))))) (CS.raise_ 3) (CS.skip)⟩
def D_is_least_find : FDef := ⟨2, 3, CS.seq (CS.if_ (CE.not_ (CE.call 22 (CEs.cons (CE.var 0) (CEs.cons (CE.var 1) (CEs.nil))))) (CS.ret (CE.cst (PV.bl false))) (CS.skip)) (CS.ret (CE.not_ (CE.b1 (B1.any) (CE.comp (CE.call 22 (CEs.cons (CE.var 0) (CEs.cons (CE.op (Op.add) (CE.sl (CE.var 1) (CEo.none) (CEo.some (CE.var 2))) (CE.sl (CE.var 1) (CEo.some (CE.op (Op.add) (CE.var 2) (CE.cst (PV.int 1)))) (CEo.none))) (CEs.nil)))) (Tg.one 2) (CI.rng (CE.b1 (B1.len) (CE.var 1))) (CEo.none) [2]))))⟩
def D_is_least : FDef := ⟨2, 2, CS.seq (CS.expr (CE.call 17 (CEs.cons (CE.var 0) (CEs.nil)))) (CS.ret (CE.and_ (CE.call 13 (CEs.cons (CE.var 1) (CEs.cons (CE.cst (PV.int 0)) (CEs.cons (CE.cst (PV.int 60)) (CEs.nil))))) (CE.call 26 (CEs.cons (CE.var 0) (CEs.cons (CE.var 1) (CEs.nil))))))⟩
def D_least_finds : FDef := ⟨2, 7, CS.seq (CS.expr (CE.call 17 (CEs.cons (CE.var 0) (CEs.nil)))) (CS.seq (CS.expr (CE.call 25 (CEs.cons (CE.var 1) (CEs.cons (CE.cst (PV.int 5)) (CEs.nil))))) (CS.seq (CS.par 3 4 (CE.newl (CEs.nil)) (CE.lst (CEs.cons (CE.cst (PV.str [])) (CEs.nil)))) (CS.seq (CS.for_ (Tg.one 2) (CI.rng (CE.op (Op.add) (CE.var 1) (CE.cst (PV.int 1)))) (CS.seq (CS.expr (CE.mext (CE.var 3) (CE.comp (CE.var 5) (Tg.one 5) (CI.seq (CE.var 4)) (CEo.some (CE.call 26 (CEs.cons (CE.var 0) (CEs.cons (CE.var 5) (CEs.nil))))) [5]))) (CS.set 4 (CE.comp2 (CE.op (Op.add) (CE.var 5) (CE.var 6)) 5 (CI.seq (CE.var 4)) 6 (CI.seq (CE.cst (PV.str [97, 98, 99, 100]))) [5, 6])))) (CS.ret (CE.b1 (B1.tuple) (CE.var 3))))))⟩
def D_law_k31 : FDef := ⟨1, 11, CS.seq (CS.set 1 (CE.call 1 (CEs.cons (CE.var 0) (CEs.nil)))) (CS.seq (CS.par 3 4 (CE.call 5 (CEs.cons (CE.var 0) (CEs.cons (CE.var 1) (CEs.nil)))) (CE.call 5 (CEs.cons (CE.var 0) (CEs.cons (CE.var 1) (CEs.nil))))) (CS.seq (CS.par 5 6 (CE.call 28 (CEs.cons (CE.tup (CEs.cons (CE.cst (PV.str [111, 114])) (CEs.cons (CE.var 3) (CEs.cons (CE.var 4) (CEs.nil))))) (CEs.cons (CE.cst (PV.int 4)) (CEs.nil)))) (CE.call 28 (CEs.cons (CE.tup (CEs.cons (CE.cst (PV.str [97, 110, 100])) (CEs.cons (CE.var 3) (CEs.cons (CE.var 4) (CEs.nil))))) (CEs.cons (CE.cst (PV.int 4)) (CEs.nil))))) (CS.seq (CS.setT [7, 8] (CE.tup (CEs.cons (CE.call 28 (CEs.cons (CE.var 3) (CEs.cons (CE.cst (PV.int 4)) (CEs.nil)))) (CEs.cons (CE.call 28 (CEs.cons (CE.var 4) (CEs.cons (CE.cst (PV.int 4)) (CEs.nil)))) (CEs.nil))))) (CS.seq (CS.if_ (CE.op (Op.ne) (CE.comp (CE.var 2) (Tg.one 2) (CI.seq (CE.var 5)) (CEo.some (CE.and_ (CE.op (Op.nin) (CE.var 2) (CE.var 7)) (CE.op (Op.nin) (CE.var 2) (CE.var 8)))) [2]) (CE.lst (CEs.nil))) (CS.ret (CE.cst (PV.bl false))) (CS.skip)) (CS.seq (CS.for_ (Tg.one 2) (CI.seq (CE.var 6)) (CS.if_ (CE.or_ (CE.not_ (CE.call 23 (CEs.cons (CE.var 3) (CEs.cons (CE.var 2) (CEs.nil))))) (CE.or_ (CE.not_ (CE.call 23 (CEs.cons (CE.var 4) (CEs.cons (CE.var 2) (CEs.nil))))) (CE.op (Op.isn) (CE.call 27 (CEs.cons (CE.tup (CEs.cons (CE.cst (PV.str [97, 110, 100])) (CEs.cons (CE.var 3) (CEs.cons (CE.var 4) (CEs.nil))))) (CEs.cons (CE.var 2) (CEs.nil)))) (CE.cst (PV.bl true))))) (CS.ret (CE.cst (PV.bl false))) (CS.skip))) (CS.seq (CS.for_ (Tg.one 2) (CI.seq (CE.var 7)) (CS.if_ (CE.op (Op.ne) (CE.op (Op.in_) (CE.var 2) (CE.var 5)) (CE.call 27 (CEs.cons (CE.tup (CEs.cons (CE.cst (PV.str [111, 114])) (CEs.cons (CE.var 3) (CEs.cons (CE.var 4) (CEs.nil))))) (CEs.cons (CE.var 2) (CEs.nil))))) (CS.ret (CE.cst (PV.bl false))) (CS.skip))) (CS.seq (CS.par 9 10 (CE.call 4 (CEs.cons (CE.var 0) (CEs.cons (CE.var 1) (CEs.nil)))) (CE.call 4 (CEs.cons (CE.var 0) (CEs.cons (CE.var 1) (CEs.nil))))) (CS.seq (CS.if_ (CE.or_ (CE.op (Op.ne) (CE.call 28 (CEs.cons (CE.tup (CEs.cons (CE.cst (PV.str [114, 111, 119])) (CEs.cons (CE.op (Op.add) (CE.var 9) (CE.var 10)) (CEs.nil)))) (CEs.cons (CE.cst (PV.int 4)) (CEs.nil)))) (CE.tup (CEs.cons (CE.op (Op.add) (CE.var 9) (CE.var 10)) (CEs.nil)))) (CE.op (Op.ne) (CE.call 28 (CEs.cons (CE.tup (CEs.cons (CE.cst (PV.str [111, 102, 116, 101, 110])) (CEs.cons (CE.var 9) (CEs.cons (CE.cst (PV.int 3)) (CEs.nil))))) (CEs.cons (CE.cst (PV.int 4)) (CEs.nil)))) (CE.tup (CEs.cons (CE.op (Op.mul) (CE.var 9) (CE.cst (PV.int 3))) (CEs.nil))))) (CS.ret (CE.cst (PV.bl false))) (CS.skip)) (CS.seq (CS.if_ (CE.or_ (CE.op (Op.ne) (CE.call 28 (CEs.cons (CE.tup (CEs.cons (CE.cst (PV.str [98, 101, 102, 111, 114, 101])) (CEs.cons (CE.var 9) (CEs.cons (CE.var 10) (CEs.cons (CE.cst (PV.int 2)) (CEs.nil)))))) (CEs.cons (CE.cst (PV.int 4)) (CEs.nil)))) (CE.tup (CEs.cons (CE.op (Op.add) (CE.var 9) (CE.var 10)) (CEs.nil)))) (CE.op (Op.ne) (CE.call 28 (CEs.cons (CE.tup (CEs.cons (CE.cst (PV.str [98, 101, 103, 105, 110])) (CEs.cons (CE.var 9) (CEs.nil)))) (CEs.cons (CE.cst (PV.int 4)) (CEs.nil)))) (CE.tup (CEs.cons (CE.var 9) (CEs.nil))))) (CS.ret (CE.cst (PV.bl false))) (CS.skip)) (CS.seq (CS.if_ (CE.or_ (CE.op (Op.ne) (CE.call 28 (CEs.cons (CE.tup (CEs.cons (CE.cst (PV.str [110, 101, 97, 114])) (CEs.cons (CE.var 9) (CEs.cons (CE.var 10) (CEs.cons (CE.cst (PV.int 1)) (CEs.nil)))))) (CEs.cons (CE.cst (PV.int 4)) (CEs.nil)))) (CE.b1 (B1.tuple) (CE.srt (CE.lst (CEs.cons (CE.op (Op.add) (CE.var 9) (CE.var 10)) (CEs.cons (CE.op (Op.add) (CE.var 10) (CE.var 9)) (CEs.nil))))))) (CE.op (Op.ne) (CE.call 28 (CEs.cons (CE.tup (CEs.cons (CE.cst (PV.str [119, 111, 114, 100])) (CEs.cons (CE.var 10) (CEs.nil)))) (CEs.cons (CE.cst (PV.int 3)) (CEs.nil)))) (CE.tup (CEs.cons (CE.var 10) (CEs.nil))))) (CS.ret (CE.cst (PV.bl false))) (CS.skip)) (CS.seq (CS.if_ (CE.op (Op.ne) (CE.call 28 (CEs.cons (CE.tup (CEs.cons (CE.cst (PV.str [110, 111, 116])) (CEs.cons (CE.var 3) (CEs.nil)))) (CEs.cons (CE.cst (PV.int 3)) (CEs.nil)))) (CE.ite (CE.not_ (CE.call 23 (CEs.cons (CE.var 3) (CEs.cons (CE.cst (PV.str [])) (CEs.nil))))) (CE.tup (CEs.cons (CE.cst (PV.str [])) (CEs.nil))) (CE.tup (CEs.nil)))) (CS.ret (CE.cst (PV.bl false))) (CS.skip)) (CS.seq (CS.if_ (CE.op (Op.ne) (CE.call 28 (CEs.cons (CE.var 3) (CEs.cons (CE.cst (PV.int 1)) (CEs.nil)))) (CE.b1 (B1.tuple) (CE.comp (CE.var 2) (Tg.one 2) (CI.seq (CE.var 7)) (CEo.some (CE.op (Op.lt) (CE.b1 (B1.len) (CE.var 2)) (CE.cst (PV.int 2)))) [2]))) (CS.ret (CE.cst (PV.bl false))) (CS.skip)) (CS.ret (CE.op (Op.eq) (CE.call 28 (CEs.cons (CE.tup (CEs.cons (CE.cst (PV.str [110, 111, 116])) (CEs.cons (CE.tup (CEs.cons (CE.cst (PV.str [110, 111, 116])) (CEs.cons (CE.var 3) (CEs.nil)))) (CEs.nil)))) (CEs.cons (CE.cst (PV.int 4)) (CEs.nil)))) (CE.var 7)))))))))))))))⟩
/-- the defs that the laws share -/
def COM : Nat → Option FDef
  | 1 => some D__law_town
  | 2 => some D__law_draw
  | 3 => some D__law_pick
  | 4 => some D__law_word
  | 5 => some D__law_simple
  | 6 => some D__law_question
  | 7 => some D__law_text
  | 8 => some D__law_finds
  | 9 => some D__law_depth
  | 12 => some D_is_between
  | 13 => some D_are_words
  | 14 => some D_is_simple
  | 15 => some D_is_at_most
  | 16 => some D_is_question
  | 17 => some D_check_question
  | 18 => some D_check_text
  | 19 => some D_depth_of
  | 20 => some D_depth
  | 21 => some D_are_close
  | 22 => some D_does_find
  | 23 => some D_finds
  | 24 => some D_found_among
  | 25 => some D_check_size
  | 26 => some D_is_least_find
  | 27 => some D_is_least
  | 28 => some D_least_finds
  | _ => none
def T02 : Nat → Option FDef
  | 0 => some D_law_k02
  | n => COM n
def T31 : Nat → Option FDef
  | 0 => some D_law_k31
  | n => COM n
end Wf
/-! Loops of the core, told plainly. -/
namespace Wf
theorem run_def {T : Nat → Option FDef} {W n f : Nat} {d : FDef} (h : T f = some d) (args : List PV) (st : Store) : run T W (n + 1) f args st = runBody (run T W n) W d args st := by
  show (match T f with | some d => runBody (run T W n) W d args st | none => R.no) = _
  rw [h]
@[simp] theorem trunc_same (v : PV) (st : Store) : trunc st.length v st = st := by unfold trunc; rw [if_pos (Nat.le_refl _)]
@[simp] theorem truncE_same (st : Store) : truncE st.length st = st := by unfold truncE; rw [if_pos (Nat.le_refl _)]
theorem trunc_len {n : Nat} {v : PV} {st : Store} (h : st.length = n) : trunc n v st = st := by unfold trunc; rw [if_pos (by omega)]
theorem runBody_ret {C : Orc} {W : Nat} {d : FDef} {args : List PV} {st st1 : Store} {v : PV} (hl : args.length = d.np) (h : ex C W d.body (startP d args) st = .ok (.ret v) st1) (hs : st1.length = st.length) : runBody C W d args st = .ok v st1 := by
  unfold runBody
  rw [if_pos hl, h]
  dsimp only
  rw [trunc_len hs]
theorem runBody_next {C : Orc} {W : Nat} {d : FDef} {args : List PV} {st st1 : Store} {ps : Slots} (hl : args.length = d.np) (h : ex C W d.body (startP d args) st = .ok (.next ps) st1) (hs : st1.length = st.length) : runBody C W d args st = .ok .non st1 := by
  unfold runBody
  rw [if_pos hl, h]
  dsimp only
  rw [trunc_len hs]
theorem runBody_exc {C : Orc} {W : Nat} {d : FDef} {args : List PV} {st : Store} {c : Nat} (hl : args.length = d.np) (h : ex C W d.body (startP d args) st = .exc c st) : runBody C W d args st = .exc c st := by
  unfold runBody
  rw [if_pos hl, h]
  dsimp only
  rw [truncE_same]
@[simp] theorem calm_ok {α : Type} (a : α) (st : Store) : (R.ok a st).calm = .ok a st := (rfl)
@[simp] theorem R.of_map_some {α : Type} (a : α) (st : Store) : R.of (some a) st = .ok a st := (rfl)
/-! ### comprehensions -/
theorem compL_pure {turn : PV → Store → R (Option PV)} {g : PV → Option PV} {st : Store} : ∀ (xs pre : List PV) (acc : List PV), (∀ v ∈ xs, turn v st = .ok (g v) st) → acc.length + xs.length ≤ SL →
    compL (.vals (pre ++ xs)) turn (xs.length + 1) pre.length acc st = .ok (.lst (acc ++ xs.filterMap g)) st
  | [], pre, acc, _, _ => by
    simp [compL, Src.next]
  | x :: xs, pre, acc, h, hl => by
    have hn : (Src.vals (pre ++ x :: xs)).next pre.length st = some (some x) := by simp [Src.next]
    rw [List.length_cons]
    unfold compL
    rw [hn]
    dsimp only
    rw [h x List.mem_cons_self]
    have ih := fun acc' hl' => compL_pure (turn := turn) (g := g) (st := st) xs (pre ++ [x]) acc' (fun v hv => h v (List.mem_cons_of_mem _ hv)) hl'
    simp only [List.append_assoc, List.singleton_append, List.length_append, List.length_cons, List.length_nil] at ih
    simp only [R.bind_ok]
    cases hg : g x with
    | none =>
      dsimp only
      rw [List.filterMap_cons, hg]
      exact ih acc (by rw [List.length_cons] at hl; omega)
    | some y =>
      dsimp only
      rw [List.length_cons] at hl
      rw [if_pos (by omega), List.filterMap_cons, hg]
      have := ih (acc ++ [y]) (by rw [List.length_append]; simp; omega)
      simpa using this
theorem comp_pure {turn : PV → Store → R (Option PV)} (g : PV → Option PV) {st : Store} {xs : List PV} (h : ∀ v ∈ xs, turn v st = .ok (g v) st) (hl : xs.length ≤ SL) : compL (.vals xs) turn (xs.length + 1) 0 [] st = .ok (.lst (xs.filterMap g)) st := by
  have := compL_pure xs [] [] h (by simpa using hl)
  simpa using this
theorem comp_map {α : Type} {turn : PV → Store → R (Option PV)} {F : α → PV} {xs : List α} (g : α → Option PV) {st : Store} (h : ∀ a ∈ xs, turn (F a) st = .ok (g a) st) (hl : xs.length ≤ SL) : compL (.vals (xs.map F)) turn (xs.length + 1) 0 [] st = .ok (.lst (xs.filterMap g)) st := by
  have key : ∀ (xs pre : List α) (acc : List PV), (∀ v ∈ xs, turn (F v) st = .ok (g v) st) → acc.length + xs.length ≤ SL →
    compL (.vals ((pre ++ xs).map F)) turn (xs.length + 1) pre.length acc st = .ok (.lst (acc ++ xs.filterMap g)) st := by
    intro xs
    induction xs with
    | nil => intro pre acc _ _; simp [compL, Src.next]
    | cons x xs ih0 =>
      intro pre acc h hl
      have hn : (Src.vals ((pre ++ x :: xs).map F)).next pre.length st = some (some (F x)) := by simp [Src.next]
      rw [List.length_cons]
      unfold compL
      rw [hn]
      dsimp only
      rw [h x List.mem_cons_self]
      have ih := fun acc' hl' => ih0 (pre ++ [x]) acc' (fun v hv => h v (List.mem_cons_of_mem _ hv)) hl'
      simp only [List.append_assoc, List.singleton_append, List.length_append, List.length_cons, List.length_nil] at ih
      simp only [R.bind_ok]
      cases hg : g x with
      | none =>
        dsimp only
        rw [List.filterMap_cons, hg]
        exact ih acc (by rw [List.length_cons] at hl; omega)
      | some y =>
        dsimp only
        rw [List.length_cons] at hl
        rw [if_pos (by omega), List.filterMap_cons, hg]
        have := ih (acc ++ [y]) (by rw [List.length_append]; simp; omega)
        simpa using this
  have := key xs [] [] h (by simpa using hl)
  simpa using this
/-- with changes: an invariant that is used up -/
theorem compL_inv {turn : PV → Store → R (Option PV)} {I : Nat → Store → Prop} {G : PV → Prop} : ∀ (xs pre acc : List PV) (k : Nat) (st : Store), (∀ v ∈ xs, ∀ k st, I (k + 1) st → ∃ y st', turn v st = .ok (some y) st' ∧ G y ∧ I k st') → acc.length + xs.length ≤ SL → I (k + xs.length) st →
    ∃ ys st', compL (.vals (pre ++ xs)) turn (xs.length + 1) pre.length acc st = .ok (.lst (acc ++ ys)) st' ∧ ys.length = xs.length ∧ (∀ y ∈ ys, G y) ∧ I k st'
  | [], pre, acc, k, st, _, _, i => ⟨[], st, by simp [compL, Src.next], rfl, by simp, by simpa using i⟩
  | x :: xs, pre, acc, k, st, h, hl, i => by
    have hn : ∀ st, (Src.vals (pre ++ x :: xs)).next pre.length st = some (some x) := fun st => by simp [Src.next]
    obtain ⟨y, st1, e1, g1, i1⟩ := h x List.mem_cons_self (k + xs.length) st (by simpa [Nat.add_assoc] using i)
    rw [List.length_cons] at hl
    obtain ⟨ys, st2, e2, l2, g2, i2⟩ := compL_inv xs (pre ++ [x]) (acc ++ [y]) k st1 (fun v hv => h v (List.mem_cons_of_mem _ hv)) (by rw [List.length_append]; simp; omega) i1
    refine ⟨y :: ys, st2, ?_, by simp [l2], fun z hz => ?_, i2⟩
    · rw [List.length_cons]
      unfold compL
      rw [hn]
      dsimp only
      rw [e1]
      simp only [R.bind_ok]
      rw [if_pos (by omega)]
      simpa using e2
    · rcases List.mem_cons.mp hz with z1 | z1
      · subst z1; exact g1
      · exact g2 z z1
theorem comp_inv {turn : PV → Store → R (Option PV)} (I : Nat → Store → Prop) (G : PV → Prop) {xs : List PV} {k : Nat} {st : Store} (h : ∀ v ∈ xs, ∀ k st, I (k + 1) st → ∃ y st', turn v st = .ok (some y) st' ∧ G y ∧ I k st') (hl : xs.length ≤ SL) (i : I (k + xs.length) st) :
    ∃ ys st', compL (.vals xs) turn (xs.length + 1) 0 [] st = .ok (.lst ys) st' ∧ ys.length = xs.length ∧ (∀ y ∈ ys, G y) ∧ I k st' := by
  obtain ⟨ys, st', e, l, g, i⟩ := compL_inv xs [] [] k st h (by simpa using hl) i
  exact ⟨ys, st', by simpa using e, l, g, i⟩
/-! ### for -/
theorem forL_inv {turn : PV → Slots → Store → R Fl} {J : Slots → Prop} {st : Store} : ∀ (xs pre : List PV) (ps : Slots), (∀ v ∈ xs, ∀ ps, J ps → ∃ ps', turn v ps st = .ok (.next ps') st ∧ J ps') → J ps →
    ∃ ps', forL (.vals (pre ++ xs)) turn (xs.length + 1) pre.length ps st = .ok (.next ps') st ∧ J ps'
  | [], pre, ps, _, j => ⟨ps, by simp [forL, Src.next], j⟩
  | x :: xs, pre, ps, h, j => by
    have hn : (Src.vals (pre ++ x :: xs)).next pre.length st = some (some x) := by simp [Src.next]
    obtain ⟨ps1, e1, j1⟩ := h x List.mem_cons_self ps j
    obtain ⟨ps2, e2, j2⟩ := forL_inv xs (pre ++ [x]) ps1 (fun v hv => h v (List.mem_cons_of_mem _ hv)) j1
    refine ⟨ps2, ?_, j2⟩
    rw [List.length_cons]
    unfold forL
    rw [hn]
    dsimp only
    rw [e1]
    simpa using e2
theorem for_inv {turn : PV → Slots → Store → R Fl} (J : Slots → Prop) {st : Store} {xs : List PV} {ps : Slots} (h : ∀ v ∈ xs, ∀ ps, J ps → ∃ ps', turn v ps st = .ok (.next ps') st ∧ J ps') (j : J ps) :
    ∃ ps', forL (.vals xs) turn (xs.length + 1) 0 ps st = .ok (.next ps') st ∧ J ps' := by
  obtain ⟨ps', e, j'⟩ := forL_inv xs [] ps h j
  exact ⟨ps', by simpa using e, j'⟩
/-- a search: the first for which the turn answers ends it -/
theorem forL_find {turn : PV → Slots → Store → R Fl} {J : Slots → Prop} {st : Store} {t : PV → Bool} {a : PV} : ∀ (xs pre : List PV) (ps : Slots), (∀ v ∈ xs, ∀ ps, J ps → if t v = true then turn v ps st = .ok (.ret a) st else ∃ ps', turn v ps st = .ok (.next ps') st ∧ J ps') → J ps →
    if xs.any t = true then forL (.vals (pre ++ xs)) turn (xs.length + 1) pre.length ps st = .ok (.ret a) st else ∃ ps', forL (.vals (pre ++ xs)) turn (xs.length + 1) pre.length ps st = .ok (.next ps') st ∧ J ps'
  | [], pre, ps, _, j => by
    rw [if_neg (by simp)]
    exact ⟨ps, by simp [forL, Src.next], j⟩
  | x :: xs, pre, ps, h, j => by
    have hn : (Src.vals (pre ++ x :: xs)).next pre.length st = some (some x) := by simp [Src.next]
    have hx := h x List.mem_cons_self ps j
    have un : forL (.vals (pre ++ x :: xs)) turn ((x :: xs).length + 1) pre.length ps st = (turn x ps st).bind fun f st1 => match f with
      | .next ps1 => forL (.vals (pre ++ x :: xs)) turn (xs.length + 1) (pre.length + 1) ps1 st1
      | .ret v => .ok (.ret v) st1 := by
      rw [List.length_cons]
      conv => lhs; unfold forL
      rw [hn]
      try rfl
    rw [un]
    by_cases hh : t x = true
    · rw [if_pos hh] at hx
      rw [if_pos (by simp [hh]), hx]
      rfl
    · rw [if_neg hh] at hx
      obtain ⟨ps1, e1, j1⟩ := hx
      have ih := forL_find xs (pre ++ [x]) ps1 (fun v hv => h v (List.mem_cons_of_mem _ hv)) j1
      simp only [List.append_assoc, List.singleton_append, List.length_append, List.length_cons, List.length_nil] at ih
      rw [e1]
      have e3 : (x :: xs).any t = xs.any t := by simp [hh]
      rw [e3]
      exact ih
theorem for_find {turn : PV → Slots → Store → R Fl} (J : Slots → Prop) (t : PV → Bool) (a : PV) {st : Store} {xs : List PV} {ps : Slots} (h : ∀ v ∈ xs, ∀ ps, J ps → if t v = true then turn v ps st = .ok (.ret a) st else ∃ ps', turn v ps st = .ok (.next ps') st ∧ J ps') (j : J ps) :
    if xs.any t = true then forL (.vals xs) turn (xs.length + 1) 0 ps st = .ok (.ret a) st else ∃ ps', forL (.vals xs) turn (xs.length + 1) 0 ps st = .ok (.next ps') st ∧ J ps' := by
  have := forL_find xs [] ps h j
  simpa using this
@[simp] theorem bools_map {α : Type} {xs : List α} {g : α → Bool} : boolsOf (xs.map fun v => PV.bl (g v)) = some (xs.map g) := by
  induction xs with
  | nil => rfl
  | cons x xs ih => simp [boolsOf, ih]
@[simp] theorem ints_map {α : Type} {xs : List α} {g : α → Int} : intsOf (xs.map fun v => PV.int (g v)) = some (xs.map g) := by
  induction xs with
  | nil => rfl
  | cons x xs ih => simp [intsOf, ih]
@[simp] theorem strs_map {α : Type} {xs : List α} {g : α → Txt} : strsOf (xs.map fun v => PV.str (g v)) = some (xs.map g) := by
  induction xs with
  | nil => rfl
  | cons x xs ih => simp [strsOf, ih]
structure Com (T : Nat → Option FDef) : Prop where
  at_ : ∀ i d, COM i = some d → T i = some d
end Wf
/-! The core's evaluator as rewriting rules. -/
namespace Wf
@[simp] theorem le_SL {n : Nat} (h : n ≤ 1000) : n ≤ SL := Nat.le_trans h (by decide)
@[simp] theorem lt_SL {n : Nat} (h : n ≤ 1000) : n < SL := Nat.lt_of_le_of_lt h (by decide)
def bIf {α : Type} (x : PV) (a b : R α) : R α := match x with
  | .bl true => a
  | .bl false => b
  | _ => .no
@[simp↓] theorem bIf_t {α : Type} (a b : R α) : bIf (.bl true) a b = a := (rfl)
@[simp↓] theorem bIf_f {α : Type} (a b : R α) : bIf (.bl false) a b = b := (rfl)
@[simp] theorem bIf_b {α : Type} (c : Bool) (a b : R α) : bIf (.bl c) a b = if c = true then a else b := by cases c <;> rfl
@[simp] theorem if_and (c d : Bool) (st : Store) : (if c = true then R.ok (PV.bl d) st else R.ok (PV.bl false) st) = R.ok (PV.bl (c && d)) st := by cases c <;> simp
@[simp] theorem if_or (c d : Bool) (st : Store) : (if c = true then R.ok (PV.bl true) st else R.ok (PV.bl d) st) = R.ok (PV.bl (c || d)) st := by cases c <;> simp
@[simp] theorem if_andP (c : Prop) [Decidable c] (d : Bool) (st : Store) : (if c then R.ok (PV.bl d) st else R.ok (PV.bl false) st) = R.ok (PV.bl (decide c && d)) st := by by_cases h : c <;> simp [h]
@[simp] theorem if_orP (c : Prop) [Decidable c] (d : Bool) (st : Store) : (if c then R.ok (PV.bl true) st else R.ok (PV.bl d) st) = R.ok (PV.bl (decide c || d)) st := by by_cases h : c <;> simp [h]
def negP (x : PV) (st : Store) : R PV := match x with
  | .int i => .ok (.int (-i)) st
  | _ => .no
@[simp] theorem negP_int (i : Int) (st : Store) : negP (.int i) st = .ok (.int (-i)) st := (rfl)
def notP (x : PV) (st : Store) : R PV := match x with
  | .bl i => .ok (.bl (!i)) st
  | _ => .no
@[simp] theorem notP_bl (i : Bool) (st : Store) : notP (.bl i) st = .ok (.bl (!i)) st := (rfl)
def evF (C : Orc) (e : CE) : Slots → Store → R PV := fun qs st => ev C qs e st
@[simp↓] theorem evF_at (C : Orc) (e : CE) (qs : Slots) (st : Store) : evF C e qs st = ev C qs e st := (rfl)
def evcF (C : Orc) : CEo → Option (Slots → Store → R PV)
  | .none => none
  | .some c => some (evF C c)
@[simp↓] theorem evcF_n (C : Orc) : evcF C .none = none := (rfl)
@[simp↓] theorem evcF_s (C : Orc) (c : CE) : evcF C (.some c) = some (evF C c) := (rfl)
section
variable (C : Orc) (W : Nat) (ps : Slots) (st : Store)
@[simp↓] theorem ev_cst (v : PV) : ev C ps (.cst v) st = .ok v st := by simp only [ev]
@[simp↓] theorem ev_var (i : Nat) : ev C ps (.var i) st = R.of (ps[i]?.join) st := by
  simp only [ev]
  cases ps[i]? with
  | none => rfl
  | some o => cases o <;> rfl
@[simp↓] theorem ev_tup (es : CEs) : ev C ps (.tup es) st = (evs C ps es st).bind fun vs st1 => if vs.length ≤ SL then .ok (.tup vs) st1 else .no := by simp only [ev]
@[simp↓] theorem ev_lst (es : CEs) : ev C ps (.lst es) st = (evs C ps es st).bind fun vs st1 => if vs.length ≤ SL then .ok (.lst vs) st1 else .no := by simp only [ev]
@[simp↓] theorem ev_newl (es : CEs) : ev C ps (.newl es) st = (evs C ps es st).bind fun vs st1 => if vs.length ≤ SL then .ok (.loc st1.length) (st1 ++ [.lst vs]) else .no := by simp only [ev]
@[simp↓] theorem ev_op (o : Op) (a b : CE) : ev C ps (.op o a b) st = (ev C ps a st).bind fun x st1 => (ev C ps b st1).bind fun y st2 => R.of (opP st2 o x y) st2 := by simp only [ev]
@[simp↓] theorem ev_chain (o o2 : Op) (a b c : CE) : ev C ps (.chain o o2 a b c) st = (ev C ps a st).bind fun x st1 => (ev C ps b st1).bind fun y st2 => (R.of (opP st2 o x y) st2).bind fun q st2 => bIf q ((ev C ps c st2).bind fun z st3 => R.of (opP st3 o2 y z) st3) (.ok (.bl false) st2) := by
  simp only [ev]
  congr 1
  funext x st1
  congr 1
  funext y st2
  cases opP st2 o x y with
  | none => rfl
  | some q => cases q with
    | bl b => cases b <;> rfl
    | _ => rfl
@[simp↓] theorem ev_and (a b : CE) : ev C ps (.and_ a b) st = (ev C ps a st).bind fun x st1 => bIf x (ev C ps b st1) (.ok (.bl false) st1) := by simp only [ev]; rfl
@[simp↓] theorem ev_or (a b : CE) : ev C ps (.or_ a b) st = (ev C ps a st).bind fun x st1 => bIf x (.ok (.bl true) st1) (ev C ps b st1) := by simp only [ev]; rfl
@[simp↓] theorem ev_not (a : CE) : ev C ps (.not_ a) st = (ev C ps a st).bind fun x st1 => notP x st1 := by simp only [ev]; rfl
@[simp↓] theorem ev_neg (a : CE) : ev C ps (.neg a) st = (ev C ps a st).bind fun x st1 => negP x st1 := by simp only [ev]; rfl
@[simp↓] theorem ev_ite (c a b : CE) : ev C ps (.ite c a b) st = (ev C ps c st).bind fun x st1 => bIf x (ev C ps a st1) (ev C ps b st1) := by simp only [ev]; rfl
@[simp↓] theorem ev_ix (a b : CE) : ev C ps (.ix a b) st = (ev C ps a st).bind fun x st1 => (ev C ps b st1).bind fun y st2 => R.of (ixP st2 x y) st2 := by simp only [ev]
@[simp↓] theorem ev_sl (a : CE) (lo hi : CEo) : ev C ps (.sl a lo hi) st = (ev C ps a st).bind fun x st1 => (evo C ps lo st1).bind fun l st2 => (evo C ps hi st2).bind fun h st3 => R.of (slP st3 x l h) st3 := by simp only [ev]
@[simp↓] theorem ev_call (f : Nat) (es : CEs) : ev C ps (.call f es) st = (evs C ps es st).bind fun vs st1 => C f vs st1 := by simp only [ev]
@[simp↓] theorem ev_srt (a : CE) : ev C ps (.srt a) st = (ev C ps a st).bind fun x st1 => R.of (srtP st1 x) st1 := by simp only [ev]
@[simp↓] theorem ev_b1 (b : B1) (a : CE) : ev C ps (.b1 b a) st = (ev C ps a st).bind fun x st1 => R.of (b1P st1 b x) st1 := by simp only [ev]
@[simp↓] theorem ev_b2 (b : B2) (a c : CE) : ev C ps (.b2 b a c) st = (ev C ps a st).bind fun x st1 => (ev C ps c st1).bind fun y st2 => R.of (b2P b x y) st2 := by simp only [ev]
@[simp↓] theorem ev_m1 (m : M1) (o a : CE) : ev C ps (.m1 m o a) st = (ev C ps o st).bind fun x st1 => if isStr x = true then (ev C ps a st1).bind fun y st2 => R.of (m1P st2 m x y) st2 else .no := by simp only [ev]
@[simp↓] theorem ev_isi (a : CE) (t : Ty) : ev C ps (.isi a t) st = (ev C ps a st).bind fun x st1 => R.of ((isiP x t).map .bl) st1 := by simp only [ev]
@[simp↓] theorem ev_compF (elt : CE) (tg : Tg) (src : CI) (cond : CEo) (vs : List Nat) : ev C ps (.comp elt tg src cond vs) st = (evi C ps src st).bind fun s st1 => compL s (compTurn tg (wipeP ps vs) (evF C elt) (evcF C cond)) (s.len st1 + 1) 0 [] st1 := by
  rw [ev_comp]
  cases cond <;> rfl
@[simp↓] theorem ev_newcat (a b : CE) : ev C ps (.newcat a b) st = (ev C ps a st).bind fun x st1 => (ev C ps b st1).bind fun y st2 => match listOf st2 x, listOf st2 y with
    | some xs, some ys => if xs.length + ys.length ≤ SL then .ok (.loc st2.length) (st2 ++ [.lst (xs ++ ys)]) else .no
    | _, _ => .no := by simp only [ev]; try rfl
def dsubP (ks : List Txt) (us : List PV) (x : PV) (st : Store) : R PV := match x with
  | .str t => R.of ((ks.zip us).lookup t) st
  | _ => .no
@[simp] theorem dsubP_str (ks : List Txt) (us : List PV) (t : Txt) (st : Store) : dsubP ks us (.str t) st = R.of ((ks.zip us).lookup t) st := (rfl)
@[simp↓] theorem ev_dsub (ks : List Txt) (vs : CEs) (k : CE) : ev C ps (.dsub ks vs k) st = (evs C ps vs st).calm.bind fun us st1 => if ks.length = us.length then (ev C ps k st1).bind fun x st2 => dsubP ks us x st2 else .no := by simp only [ev]; rfl
def mextP (x y : PV) (st2 : Store) : R PV := match x, y with
  | .loc n, .lst ys => match st2[n]? with
    | some (.lst xs) => if xs.length + ys.length ≤ SL then .ok .non (st2.set n (.lst (xs ++ ys))) else .no
    | _ => .no
  | _, _ => .no
def mappP (x y : PV) (st2 : Store) : R PV := match x with
  | .loc n => match st2[n]? with
    | some (.lst xs) => if xs.length < SL then .ok .non (st2.set n (.lst (xs ++ [y]))) else .no
    | _ => .no
  | _ => .no
theorem mextP_loc {st : Store} {n : Nat} {xs : List PV} (h : st[n]? = some (.lst xs)) (ys : List PV) (hl : xs.length + ys.length ≤ SL) : mextP (.loc n) (.lst ys) st = .ok .non (st.set n (.lst (xs ++ ys))) := by
  unfold mextP
  dsimp only
  rw [h]
  exact if_pos hl
theorem mappP_loc {st : Store} {n : Nat} {xs : List PV} (h : st[n]? = some (.lst xs)) (y : PV) (hl : xs.length < SL) : mappP (.loc n) y st = .ok .non (st.set n (.lst (xs ++ [y]))) := by
  unfold mappP
  dsimp only
  rw [h]
  exact if_pos hl
theorem isLst_loc {st : Store} {n : Nat} {xs : List PV} (h : st[n]? = some (.lst xs)) : isLst st (.loc n) = true := by
  unfold isLst
  dsimp only
  rw [h]
@[simp↓] theorem ev_mext (o a : CE) : ev C ps (.mext o a) st = (ev C ps o st).bind fun x st1 => if isLst st1 x = true then (ev C ps a st1).bind fun y st2 => mextP x y st2 else .no := by simp only [ev]; rfl
@[simp↓] theorem ev_mapp (o a : CE) : ev C ps (.mapp o a) st = (ev C ps o st).bind fun x st1 => if isLst st1 x = true then (ev C ps a st1).bind fun y st2 => mappP x y st2 else .no := by simp only [ev]; rfl
def comp2Turn (C : Orc) (elt : CE) (i j : Nat) (src2 : CI) (qs : Slots) (v : PV) (acc : List PV) (st2 : Store) : R (List PV) := (evi C (qs.set i (some v)) src2 st2).calm.bind fun s2 st3 => compL2 s2 (fun u st4 => (evF C elt ((qs.set i (some v)).set j (some u)) st4).calm) (s2.len st3 + 1) 0 acc st3
@[simp↓] theorem ev_comp2 (elt : CE) (i : Nat) (src : CI) (j : Nat) (src2 : CI) (vs : List Nat) : ev C ps (.comp2 elt i src j src2 vs) st = (evi C ps src st).bind fun s st1 => compL1 s (comp2Turn C elt i j src2 (wipeP ps vs)) (s.len st1 + 1) 0 [] st1 := by simp only [ev]; rfl
@[simp↓] theorem evs_nil : evs C ps .nil st = .ok [] st := by simp only [evs]
@[simp↓] theorem evs_cons (e : CE) (r : CEs) : evs C ps (.cons e r) st = (ev C ps e st).bind fun v st1 => (evs C ps r st1).bind fun vs st2 => .ok (v :: vs) st2 := by simp only [evs]
@[simp↓] theorem evo_none : evo C ps .none st = .ok none st := by simp only [evo]
def intO (v : PV) (st : Store) : R (Option PV) := match v with
  | .int i => .ok (some (.int i)) st
  | _ => .no
@[simp] theorem intO_int (i : Int) (st : Store) : intO (.int i) st = .ok (some (.int i)) st := (rfl)
@[simp↓] theorem evo_some (e : CE) : evo C ps (.some e) st = (ev C ps e st).bind fun v st1 => intO v st1 := by simp only [evo]; rfl
@[simp↓] theorem evi_seq (e : CE) : evi C ps (.seq e) st = (ev C ps e st).bind fun v st1 => R.of (seqSrc st1 v) st1 := by simp only [evi]
def enumP (v : PV) (st : Store) : R Src := match v with
  | .str x => if x.length ≤ SL then .ok (.vals (x.mapIdx fun i c => .tup [.int i, .str [c]])) st else .no
  | _ => .no
@[simp] theorem enumP_str (x : Txt) (st : Store) : enumP (.str x) st = if x.length ≤ SL then .ok (.vals (x.mapIdx fun i c => .tup [.int i, .str [c]])) st else .no := (rfl)
@[simp↓] theorem evi_enum (e : CE) : evi C ps (.enum e) st = (ev C ps e st).bind fun v st1 => enumP v st1 := by simp only [evi]; rfl
def rngP (v : PV) (st : Store) : R Src := match v with
  | .int j => if -(2 ^ 62) ≤ j ∧ j < 2 ^ 62 then .ok (.vals ((List.range j.toNat).map fun k => .int (k : Nat))) st else .no
  | _ => .no
@[simp] theorem rngP_int (j : Int) (st : Store) : rngP (.int j) st = if -(2 ^ 62) ≤ j ∧ j < 2 ^ 62 then .ok (.vals ((List.range j.toNat).map fun k => .int (k : Nat))) st else .no := (rfl)
@[simp↓] theorem evi_rng (e : CE) : evi C ps (.rng e) st = (ev C ps e st).bind fun v st1 => rngP v st1 := by simp only [evi]; rfl
def flK (f : Fl) (st : Store) (k : Slots → Store → R Fl) : R Fl := match f with
  | .next ps1 => k ps1 st
  | .ret v => .ok (.ret v) st
@[simp↓] theorem flK_next (ps : Slots) (st : Store) (k : Slots → Store → R Fl) : flK (.next ps) st k = k ps st := (rfl)
@[simp↓] theorem flK_ret (v : PV) (st : Store) (k : Slots → Store → R Fl) : flK (.ret v) st k = .ok (.ret v) st := (rfl)
def exF (C : Orc) (W : Nat) (s : CS) : Slots → Store → R Fl := fun ps st => ex C W s ps st
@[simp↓] theorem exF_at (s : CS) (qs : Slots) (st : Store) : exF C W s qs st = ex C W s qs st := (rfl)
@[simp↓] theorem ex_skip : ex C W .skip ps st = .ok (.next ps) st := by simp only [ex]
@[simp↓] theorem ex_seq (a b : CS) : ex C W (.seq a b) ps st = (ex C W a ps st).bind fun f st1 => flK f st1 (exF C W b) := by simp only [ex]; rfl
@[simp↓] theorem ex_expr (e : CE) : ex C W (.expr e) ps st = (ev C ps e st).bind fun _ st1 => .ok (.next ps) st1 := by simp only [ex]
@[simp↓] theorem ex_set (i : Nat) (e : CE) : ex C W (.set i e) ps st = (ev C ps e st).bind fun v st1 => .ok (.next (ps.set i (some v))) st1 := by simp only [ex]
@[simp↓] theorem ex_setT (is : List Nat) (e : CE) : ex C W (.setT is e) ps st = (ev C ps e st).bind fun v st1 => (R.of (asg (.many is) v ps) st1).bind fun qs st1 => .ok (.next qs) st1 := by
  simp only [ex]
  congr 1
  funext v st1
  cases asg (.many is) v ps <;> rfl
@[simp↓] theorem ex_par (i j : Nat) (a b : CE) : ex C W (.par i j a b) ps st = (ev C ps a st).bind fun x st1 => (ev C ps b st1).bind fun y st2 => .ok (.next ((ps.set i (some x)).set j (some y))) st2 := by simp only [ex]
@[simp↓] theorem ex_par3 (i j k : Nat) (a b c : CE) : ex C W (.par3 i j k a b c) ps st = (ev C ps a st).bind fun x st1 => (ev C ps b st1).bind fun y st2 => (ev C ps c st2).bind fun z st3 => .ok (.next (((ps.set i (some x)).set j (some y)).set k (some z))) st3 := by simp only [ex]
@[simp↓] theorem ex_ixset (o i e : CE) : ex C W (.ixset o i e) ps st = (ev C ps e st).bind fun v st1 => (ev C ps o st1).bind fun x st2 => (ev C ps i st2).bind fun y st3 => (R.of (setP st3 x y v) st3).bind fun st4 _ => .ok (.next ps) st4 := by
  simp only [ex]
  congr 1
  funext v st1
  congr 1
  funext x st2
  congr 1
  funext y st3
  cases setP st3 x y v <;> rfl
@[simp↓] theorem ex_if (c : CE) (a b : CS) : ex C W (.if_ c a b) ps st = (ev C ps c st).bind fun x st1 => bIf x (exF C W a ps st1) (exF C W b ps st1) := by simp only [ex]; rfl
def forTurn (C : Orc) (W : Nat) (tg : Tg) (body : CS) (v : PV) (qs : Slots) (st : Store) : R Fl := (R.of (asg tg v qs) st).bind fun rs st => exF C W body rs st
@[simp↓] theorem ex_for (tg : Tg) (src : CI) (body : CS) : ex C W (.for_ tg src body) ps st = (evi C ps src st).bind fun s st1 => forL s (forTurn C W tg body) (s.len st1 + 1) 0 ps st1 := by
  simp only [ex]
  congr 1
  funext s st1
  congr 1
  funext v qs st2
  unfold forTurn
  cases asg tg v qs <;> rfl
@[simp↓] theorem ex_while (c : CE) (body : CS) : ex C W (.while_ c body) ps st = whileL (evF C c) (exF C W body) W ps st := by simp only [ex]; rfl
@[simp↓] theorem ex_ret (e : CE) : ex C W (.ret e) ps st = (ev C ps e st).bind fun v st1 => .ok (.ret v) st1 := by simp only [ex]
@[simp↓] theorem ex_raise (c : Nat) : ex C W (.raise_ c) ps st = .exc c st := by simp only [ex]
end
theorem fm_if {α β : Type} (p : α → Bool) (f : α → β) : ∀ l : List α, (l.filterMap fun a => if p a = true then some (f a) else none) = (l.filter p).map f
  | [] => rfl
  | a :: l => by
    rw [List.filterMap_cons, List.filter_cons]
    cases p a <;> simp [fm_if p f l]
/-- a comprehension over the places of a text -/
theorem comp_range {turn : PV → Store → R (Option PV)} {n : Nat} (p : Nat → Bool) (f : Nat → PV) {st : Store} (h : ∀ k, k < n → turn (.int (k : Nat)) st = .ok (if p k = true then some (f k) else none) st) (hl : n ≤ SL) :
    compL (.vals ((List.range n).map fun k => .int (k : Nat))) turn (n + 1) 0 [] st = .ok (.lst (((List.range n).filter p).map f)) st := by
  have := comp_map (turn := turn) (F := fun k : Nat => PV.int (k : Nat)) (xs := List.range n) (st := st) (fun k => if p k = true then some (f k) else none) (fun k hk => h k (List.mem_range.mp hk)) (by rw [List.length_range]; exact hl)
  rw [List.length_range] at this
  rw [this, fm_if]
/-- a comprehension over a list of numbers -/
theorem comp_nats {turn : PV → Store → R (Option PV)} {ks : List Nat} (p : Nat → Bool) (f : Nat → PV) {st : Store} (h : ∀ k ∈ ks, turn (.int (k : Nat)) st = .ok (if p k = true then some (f k) else none) st) (hl : ks.length ≤ SL) :
    compL (.vals (ks.map fun k => .int (k : Nat))) turn (ks.length + 1) 0 [] st = .ok (.lst ((ks.filter p).map f)) st := by
  rw [comp_map (F := fun k : Nat => PV.int (k : Nat)) (fun k => if p k = true then some (f k) else none) h hl, fm_if]
/-! ### the operators on known kinds -/
section
variable (st : Store)
@[simp] theorem op_addI (i j : Int) : opP st .add (.int i) (.int j) = some (.int (i + j)) := (rfl)
@[simp] theorem op_addS (a b : Txt) : opP st .add (.str a) (.str b) = if a.length + b.length ≤ SL then some (.str (a ++ b)) else none := (rfl)
@[simp] theorem op_addT (a b : List PV) : opP st .add (.tup a) (.tup b) = if a.length + b.length ≤ SL then some (.tup (a ++ b)) else none := (rfl)
@[simp] theorem op_addL (a b : List PV) : opP st .add (.lst a) (.lst b) = if a.length + b.length ≤ SL then some (.lst (a ++ b)) else none := (rfl)
@[simp] theorem op_subI (i j : Int) : opP st .sub (.int i) (.int j) = some (.int (i - j)) := (rfl)
@[simp] theorem op_mulI (i j : Int) : opP st .mul (.int i) (.int j) = if mulOk i j then some (.int (i * j)) else none := (rfl)
@[simp] theorem op_divI (i j : Int) : opP st .fdiv (.int i) (.int j) = if 0 < j ∧ j < 1073741824 then some (.int (i / j)) else none := (rfl)
@[simp] theorem op_modI (i j : Int) : opP st .mod (.int i) (.int j) = if 0 < j then some (.int (i % j)) else none := (rfl)
@[simp] theorem op_powI (i j : Int) : opP st .pow (.int i) (.int j) = if 0 ≤ j ∧ j ≤ 1000000 ∧ i.natAbs < 2 ^ 64 then some (.int (i ^ j.toNat)) else none := (rfl)
@[simp] theorem op_ltI (i j : Int) : opP st .lt (.int i) (.int j) = some (.bl (decide (i < j))) := (rfl)
@[simp] theorem op_leI (i j : Int) : opP st .le (.int i) (.int j) = some (.bl (decide (i ≤ j))) := (rfl)
@[simp] theorem op_gtI (i j : Int) : opP st .gt (.int i) (.int j) = some (.bl (decide (j < i))) := (rfl)
@[simp] theorem op_geI (i j : Int) : opP st .ge (.int i) (.int j) = some (.bl (decide (j ≤ i))) := (rfl)
@[simp] theorem op_eqS (x y : Txt) : opP st .eq (.str x) (.str y) = some (.bl (decide (x = y))) := (rfl)
@[simp] theorem op_neS (x y : Txt) : opP st .ne (.str x) (.str y) = some (.bl (!decide (x = y))) := (rfl)
@[simp] theorem op_eqI (x y : Int) : opP st .eq (.int x) (.int y) = some (.bl (decide (x = y))) := (rfl)
@[simp] theorem op_neI (x y : Int) : opP st .ne (.int x) (.int y) = some (.bl (!decide (x = y))) := (rfl)
@[simp] theorem op_eqB (x y : Bool) : opP st .eq (.bl x) (.bl y) = some (.bl (decide (x = y))) := (rfl)
@[simp] theorem op_neB (x y : Bool) : opP st .ne (.bl x) (.bl y) = some (.bl (!decide (x = y))) := (rfl)
@[simp] theorem op_inSS (x y : Txt) : opP st .in_ (.str x) (.str y) = some (.bl (infixB x y)) := (rfl)
@[simp] theorem op_ninSS (x y : Txt) : opP st .nin (.str x) (.str y) = some (.bl (!infixB x y)) := (rfl)
theorem all_flatS : ∀ ys : List Txt, (ys.map PV.str).all flatP = true
  | [] => rfl
  | _ :: r => by simp [flatP]
/-- a text among texts -/
theorem inP_strs (x : Txt) (ys : List PV) (zs : List Txt) (h : ys = zs.map .str) : inP st (.str x) (.tup ys) = some (zs.any fun z => decide (z = x)) := by
  subst h
  show (if flatP (.str x) = true ∧ (zs.map PV.str).all flatP = true then some ((zs.map PV.str).any fun z => flatEq z (.str x)) else _) = _
  rw [if_pos ⟨rfl, all_flatS zs⟩, List.any_map]
  rfl
theorem op_in_eq (x y : PV) : opP st .in_ x y = (inP st x y).map PV.bl := (rfl)
theorem op_nin_eq (x y : PV) : opP st .nin x y = (inP st x y).map fun b => PV.bl (!b) := (rfl)
@[simp] theorem op_in1 (x a : Txt) : opP st .in_ (.str x) (.tup [.str a]) = some (.bl (decide (a = x))) := by
  rw [op_in_eq, inP_strs st x [PV.str a] [a] rfl]
  simp
@[simp] theorem op_in2 (x a b : Txt) : opP st .in_ (.str x) (.tup [.str a, .str b]) = some (.bl (decide (a = x) || decide (b = x))) := by
  rw [op_in_eq, inP_strs st x [PV.str a, PV.str b] [a, b] rfl]
  simp
@[simp] theorem op_in3 (x a b c : Txt) : opP st .in_ (.str x) (.tup [.str a, .str b, .str c]) = some (.bl (decide (a = x) || (decide (b = x) || decide (c = x)))) := by
  rw [op_in_eq, inP_strs st x [PV.str a, PV.str b, PV.str c] [a, b, c] rfl]
  simp
@[simp] theorem op_nin3 (x a b c : Txt) : opP st .nin (.str x) (.tup [.str a, .str b, .str c]) = some (.bl (!(decide (a = x) || (decide (b = x) || decide (c = x))))) := by
  rw [op_nin_eq, inP_strs st x [PV.str a, PV.str b, PV.str c] [a, b, c] rfl]
  simp
@[simp] theorem ix_tup (xs : List PV) (i : Int) : ixP st (.tup xs) (.int i) = atP xs i := (rfl)
@[simp] theorem ix_lst (xs : List PV) (i : Int) : ixP st (.lst xs) (.int i) = atP xs i := (rfl)
@[simp] theorem ix_scr (xs : List PV) (i : Int) : ixP st (.scr xs) (.int i) = atP xs i := (rfl)
@[simp] theorem ix_str (xs : Txt) (i : Int) : ixP st (.str xs) (.int i) = if xs.length ≤ SL then (atP xs i).map fun c => .str [c] else none := (rfl)
@[simp] theorem at_zero {α : Type} (x : α) (r : List α) : atP (x :: r) 0 = some x := (rfl)
@[simp] theorem at_one {α : Type} (x y : α) (r : List α) : atP (x :: y :: r) 1 = some y := (rfl)
@[simp] theorem at_two {α : Type} (x y z : α) (r : List α) : atP (x :: y :: z :: r) 2 = some z := (rfl)
@[simp] theorem at_three {α : Type} (x y z u : α) (r : List α) : atP (x :: y :: z :: u :: r) 3 = some u := (rfl)
theorem at_nat {α : Type} {xs : List α} {i : Int} (h : 0 ≤ i) : atP xs i = xs[i.toNat]? := by unfold atP; rw [if_pos h]
@[simp] theorem at_cast {α : Type} {xs : List α} (i : Nat) : atP xs (i : Int) = xs[i]? := by rw [at_nat (by omega)]; simp
@[simp] theorem sl_tup1 (xs : List PV) : slP st (.tup xs) (some (.int 1)) none = some (.tup (xs.drop 1)) := by
  show some (PV.tup (cutL xs (clampI xs.length 1) xs.length)) = _
  unfold cutL clampI
  rw [if_pos (by decide)]
  cases xs with
  | nil => rfl
  | cons x r => simp
@[simp] theorem sl_tup_h (xs : List PV) (i : Int) : slP st (.tup xs) none (some (.int i)) = some (.tup (cutL xs 0 (clampI xs.length i))) := (rfl)
@[simp] theorem sl_str_h (xs : Txt) (i : Int) : slP st (.str xs) none (some (.int i)) = if xs.length ≤ SL then some (.str (cutL xs 0 (clampI xs.length i))) else none := (rfl)
@[simp] theorem sl_str_l (xs : Txt) (i : Int) : slP st (.str xs) (some (.int i)) none = if xs.length ≤ SL then some (.str (cutL xs (clampI xs.length i) xs.length)) else none := (rfl)
@[simp] theorem sl_str_lh (xs : Txt) (i j : Int) : slP st (.str xs) (some (.int i)) (some (.int j)) = if xs.length ≤ SL then some (.str (cutL xs (clampI xs.length i) (clampI xs.length j))) else none := (rfl)
theorem comp_nil {turn : PV → Store → R (Option PV)} {k i : Nat} {acc xs : List PV} (h : xs.length ≤ i) : compL (.vals xs) turn (k + 1) i acc st = .ok (.lst acc) st := by
  unfold compL
  have : (Src.vals xs).next i st = some none := by
    show some xs[i]? = _
    rw [List.getElem?_eq_none h]
  rw [this]
@[simp] theorem len_str (x : Txt) : b1P st .len (.str x) = if x.length ≤ SL then some (.int x.length) else none := (rfl)
@[simp] theorem len_tup (xs : List PV) : b1P st .len (.tup xs) = some (.int xs.length) := (rfl)
@[simp] theorem len_lst (xs : List PV) : b1P st .len (.lst xs) = some (.int xs.length) := (rfl)
@[simp] theorem len_scr (xs : List PV) : b1P st .len (.scr xs) = some (.int xs.length) := (rfl)
@[simp] theorem all_lst (xs : List PV) : b1P st .all (.lst xs) = (boolsOf xs).map fun bs => .bl (bs.all id) := (rfl)
@[simp] theorem any_lst (xs : List PV) : b1P st .any (.lst xs) = (boolsOf xs).map fun bs => .bl (bs.any id) := (rfl)
@[simp] theorem tuple_lst (xs : List PV) : b1P st .tuple (.lst xs) = some (.tup xs) := (rfl)
@[simp] theorem list_scr (xs : List PV) : b1P st .list (.scr xs) = some (.lst xs) := (rfl)
@[simp] theorem max_lst (xs : List PV) : b1P st .max (.lst xs) = match intsOf xs with
      | some is => (maxI is).map .int
      | none => none := (rfl)
@[simp] theorem isi_strT (x : Txt) : isiP (.str x) .str = some true := (rfl)
@[simp] theorem isi_intT (x : Int) : isiP (.int x) .int = some true := (rfl)
@[simp] theorem isi_intB (x : Int) : isiP (.int x) .bool = some false := (rfl)
@[simp] theorem isi_tupT (x : List PV) : isiP (.tup x) .tuple = some true := (rfl)
@[simp] theorem isStr_str (x : Txt) : isStr (.str x) = true := (rfl)
@[simp] theorem src_tupP (xs : List PV) : seqSrc st (.tup xs) = some (.vals xs) := (rfl)
@[simp] theorem src_lstP (xs : List PV) : seqSrc st (.lst xs) = some (.vals xs) := (rfl)
@[simp] theorem src_strP (x : Txt) : seqSrc st (.str x) = if x.length ≤ SL then some (.vals (x.map fun c => .str [c])) else none := (rfl)
@[simp] theorem len_vals (xs : List PV) : (Src.vals xs).len st = xs.length := (rfl)
@[simp] theorem turn_none (i : Nat) (ps : Slots) (elt : Slots → Store → R PV) (v : PV) : compTurn (.one i) ps elt none v st = (elt (ps.set i (some v)) st).calm.bind fun y st3 => .ok (some y) st3 := (rfl)
@[simp] theorem turn_some (i : Nat) (ps : Slots) (elt : Slots → Store → R PV) (c : Slots → Store → R PV) (v : PV) : compTurn (.one i) ps elt (some c) v st = (c (ps.set i (some v)) st).calm.bind fun b st3 => bIf b ((elt (ps.set i (some v)) st3).calm.bind fun y st4 => .ok (some y) st4) (.ok none st3) := by
  unfold compTurn
  show R.bind _ _ = _
  congr 1
@[simp] theorem turn_none2 (i j : Nat) (ps : Slots) (elt : Slots → Store → R PV) (x y : PV) : compTurn (.many [i, j]) ps elt none (.tup [x, y]) st = (elt ((ps.set i (some x)).set j (some y)) st).calm.bind fun y st3 => .ok (some y) st3 := (rfl)
@[simp] theorem asg_one (i : Nat) (v : PV) (ps : Slots) : asg (.one i) v ps = some (ps.set i (some v)) := (rfl)
@[simp] theorem wipe_nil (ps : Slots) : wipeP ps [] = ps := (rfl)
@[simp] theorem wipe_cons (ps : Slots) (v : Nat) (vs : List Nat) : wipeP ps (v :: vs) = (wipeP ps vs).set v none := (rfl)
@[simp] theorem listOf_lst (xs : List PV) : listOf st (.lst xs) = some xs := (rfl)
end
end Wf
/-! == over lists and tuples of one kind. -/
namespace Wf
open PySem
/-- a kind of values, by data -/
structure Kd {α : Type} (e : α → PV) (P : α → Prop) (n : Nat) : Prop where
  ex : ∃ d : α → PyData, (∀ a, P a → (e a).data = some (d a)) ∧ (∀ a, P a → (d a).canLay0 = true ∧ (d a).depth ≤ n) ∧ ∀ a b, P a → P b → (PyData.eqv (d a) (d b) = true ↔ a = b)
section
variable {α : Type} {e : α → PV} {P : α → Prop} {n : Nat}
theorem datas_map {d : α → PyData} : ∀ {xs : List α}, (∀ a ∈ xs, (e a).data = some (d a)) → PV.datas (xs.map e) = some (xs.map d)
  | [], _ => rfl
  | x :: xs, h => by
    rw [List.map_cons, List.map_cons]
    simp only [PV.datas, h x List.mem_cons_self, datas_map fun a ha => h a (List.mem_cons_of_mem _ ha)]
theorem lay_map {d : α → PyData} : ∀ {xs : List α}, (∀ a ∈ xs, (d a).canLay0 = true ∧ (d a).depth ≤ n) → PyData.canLayAll0 (xs.map d) = true ∧ PyData.depthAll (xs.map d) ≤ n
  | [], _ => by simp [PyData.canLayAll0, PyData.depthAll]
  | x :: xs, h => by
    have h1 := h x List.mem_cons_self
    have h2 := lay_map fun a ha => h a (List.mem_cons_of_mem _ ha)
    simp only [List.map_cons, PyData.canLayAll0, PyData.depthAll, h1.1, h2.1, Bool.and_self, true_and]
    omega
theorem eqv_map {d : α → PyData} : ∀ {xs ys : List α}, (∀ a ∈ xs, ∀ b ∈ ys, (PyData.eqv (d a) (d b) = true ↔ a = b)) → (PyData.eqvAll (xs.map d) (ys.map d) = true ↔ xs = ys)
  | [], [], _ => by simp [PyData.eqvAll]
  | [], _ :: _, _ => by simp [PyData.eqvAll]
  | _ :: _, [], _ => by simp [PyData.eqvAll]
  | x :: xs, y :: ys, h => by
    simp only [List.map_cons, PyData.eqvAll, Bool.and_eq_true, List.cons.injEq, h x List.mem_cons_self y List.mem_cons_self, eqv_map fun a ha b hb => h a (List.mem_cons_of_mem _ ha) b (List.mem_cons_of_mem _ hb)]
theorem beq_dec {b : Bool} {p : Prop} [Decidable p] (h : b = true ↔ p) : b = decide p := by
  cases b with
  | true => exact (decide_eq_true (h.mp rfl)).symm
  | false => exact (decide_eq_false fun q => by have := h.mpr q; cases this).symm
/-- lists of a kind are a kind -/
theorem Kd.tup (k : Kd e P n) : Kd (fun xs : List α => .tup (xs.map e)) (fun xs => ∀ a ∈ xs, P a) (n + 1) := by
  obtain ⟨d, h1, h2, h3⟩ := k.ex
  refine ⟨fun xs => .tuple (xs.map d), fun xs hx => ?_, fun xs hx => ?_, fun xs ys hx hy => ?_⟩
  · simp only [PV.data, datas_map fun a ha => h1 a (hx a ha)]; rfl
  · have := lay_map (n := n) fun a ha => h2 a (hx a ha)
    simp only [PyData.canLay0, PyData.depth]
    exact ⟨this.1, by omega⟩
  · simp only [PyData.eqv]
    exact eqv_map fun a ha b hb => h3 a b (hx a ha) (hy b hb)
theorem Kd.lst (k : Kd e P n) : Kd (fun xs : List α => .lst (xs.map e)) (fun xs => ∀ a ∈ xs, P a) (n + 1) := by
  obtain ⟨d, h1, h2, h3⟩ := k.ex
  refine ⟨fun xs => .list (xs.map d), fun xs hx => ?_, fun xs hx => ?_, fun xs ys hx hy => ?_⟩
  · simp only [PV.data, datas_map fun a ha => h1 a (hx a ha)]; rfl
  · have := lay_map (n := n) fun a ha => h2 a (hx a ha)
    simp only [PyData.canLay0, PyData.depth]
    exact ⟨this.1, by omega⟩
  · simp only [PyData.eqv]
    exact eqv_map fun a ha b hb => h3 a b (hx a ha) (hy b hb)
theorem eqv_str_comm : True := trivial
/-- == of two values of a kind -/
theorem Kd.eqP [DecidableEq α] (k : Kd e P n) (hn : n ≤ 64) (st : Store) {a b : α} (ha : P a) (hb : P b) : Wf.eqP st (e a) (e b) = some (decide (a = b)) := by
  obtain ⟨d, h1, h2, h3⟩ := k.ex
  have da := h1 a ha
  have db := h1 b hb
  have sa : SeqAt.shaped (d a) = true := by unfold SeqAt.shaped; rw [(h2 a ha).1, decide_eq_true (Nat.le_trans (h2 a ha).2 hn)]; rfl
  have sb : SeqAt.shaped (d b) = true := by unfold SeqAt.shaped; rw [(h2 b hb).1, decide_eq_true (Nat.le_trans (h2 b hb).2 hn)]; rfl
  have key : (if SeqAt.shaped (d a) = true ∧ SeqAt.shaped (d b) = true then some (PyData.eqv (d a) (d b)) else none) = some (decide (a = b)) := by
    rw [if_pos ⟨sa, sb⟩, beq_dec (h3 a b ha hb)]
  have hnl : ∀ x y : PV, x.data = some (d a) → y.data = some (d b) → Wf.eqP st x y = some (PyData.eqv (d a) (d b)) := by
    intro x y hx hy
    have dx : dataOf st x = x.data := by cases x <;> first | rfl | (simp [PV.data] at hx)
    have dy : dataOf st y = y.data := by cases y <;> first | rfl | (simp [PV.data] at hy)
    have gen : (match dataOf st x, dataOf st y with
      | some d, some e => if SeqAt.shaped d = true ∧ SeqAt.shaped e = true then some (PyData.eqv d e) else none
      | _, _ => none) = some (PyData.eqv (d a) (d b)) := by
      rw [dx, dy, hx, hy]
      exact if_pos ⟨sa, sb⟩
    cases x <;> cases y <;> try exact gen
    · rename_i i j
      have e1 : PyData.str ⟨i.toArray⟩ = d a := Option.some.inj (show some (PyData.str ⟨i.toArray⟩) = some (d a) from hx)
      have e2 : PyData.str ⟨j.toArray⟩ = d b := Option.some.inj (show some (PyData.str ⟨j.toArray⟩) = some (d b) from hy)
      rw [← e1, ← e2]
      show some (decide (i = j)) = some (PyData.eqv _ _)
      simp only [PyData.eqv]
      refine congrArg some (Bool.eq_iff_iff.mpr ?_)
      simp
  rw [hnl _ _ da db, beq_dec (h3 a b ha hb)]
theorem Kd.eq [DecidableEq α] (k : Kd e P n) (hn : n ≤ 64) (st : Store) {a b : α} (ha : P a) (hb : P b) : opP st .eq (e a) (e b) = some (.bl (decide (a = b))) := by
  show (Wf.eqP st _ _).map PV.bl = _
  rw [k.eqP hn st ha hb]; rfl
theorem Kd.ne [DecidableEq α] (k : Kd e P n) (hn : n ≤ 64) (st : Store) {a b : α} (ha : P a) (hb : P b) : opP st .ne (e a) (e b) = some (.bl (!decide (a = b))) := by
  show (Wf.eqP st _ _).map (fun b => PV.bl (!b)) = _
  rw [k.eqP hn st ha hb]; rfl
end
theorem kd_int : Kd PV.int (fun _ => True) 0 := ⟨fun i => .int i, fun _ _ => rfl, fun _ _ => by simp [PyData.canLay0, PyData.depth], fun a b _ _ => by simp [PyData.eqv]⟩
theorem kd_bool : Kd PV.bl (fun _ => True) 0 := ⟨fun i => .bool i, fun _ _ => rfl, fun _ _ => by simp [PyData.canLay0, PyData.depth], fun a b _ _ => by simp [PyData.eqv]⟩
def txOk (x : Txt) : Prop := PyData.strOk ⟨x.toArray⟩ = true
theorem kd_str : Kd PV.str txOk 0 := ⟨fun x => .str ⟨x.toArray⟩, fun _ _ => rfl, fun _ h => by simp only [PyData.canLay0, PyData.depth]; exact ⟨h, by simp⟩, fun a b _ _ => by simp [PyData.eqv]⟩
end Wf
/-! The program's checks of values, on well formed questions and texts. -/
namespace Wf
def wordB (c : Nat) : Bool := c == 97 || c == 98 || c == 99 || c == 100
theorem infix_word (c : Nat) : infixB [c] [97, 98, 99, 100] = wordB c := by
  simp [infixB, wordB, List.isPrefixOf, Bool.or_assoc]
/-- questions -/
inductive Qn where
  | word (v : Nat)
  | begin_ (v : Nat)
  | end_ (v : Nat)
  | row (x : Txt)
  | near (v w : Nat) (g : Nat)
  | before (v w : Nat) (g : Nat)
  | often (v : Nat) (k : Nat)
  | not_ (q : Qn)
  | and_ (q r : Qn)
  | or_ (q r : Qn)
def Qn.pv : Qn → PV
  | .word v => .tup [.str [119, 111, 114, 100], .str [v]]
  | .begin_ v => .tup [.str [98, 101, 103, 105, 110], .str [v]]
  | .end_ v => .tup [.str [101, 110, 100], .str [v]]
  | .row x => .tup [.str [114, 111, 119], .str x]
  | .near v w g => .tup [.str [110, 101, 97, 114], .str [v], .str [w], .int g]
  | .before v w g => .tup [.str [98, 101, 102, 111, 114, 101], .str [v], .str [w], .int g]
  | .often v k => .tup [.str [111, 102, 116, 101, 110], .str [v], .int k]
  | .not_ q => .tup [.str [110, 111, 116], q.pv]
  | .and_ q r => .tup [.str [97, 110, 100], q.pv, r.pv]
  | .or_ q r => .tup [.str [111, 114], q.pv, r.pv]
def Qn.dep : Qn → Nat
  | .not_ q => q.dep + 1
  | .and_ q r => max q.dep r.dep + 1
  | .or_ q r => max q.dep r.dep + 1
  | _ => 1
def Qn.ok : Qn → Prop
  | .word v => wordB v = true
  | .begin_ v => wordB v = true
  | .end_ v => wordB v = true
  | .row x => x.all wordB = true ∧ 2 ≤ x.length ∧ x.length ≤ 3
  | .near v w g => wordB v = true ∧ wordB w = true ∧ g ≤ 2
  | .before v w g => wordB v = true ∧ wordB w = true ∧ g ≤ 2
  | .often v k => wordB v = true ∧ 2 ≤ k ∧ k ≤ 3
  | .not_ q => q.ok
  | .and_ q r => q.ok ∧ r.ok
  | .or_ q r => q.ok ∧ r.ok
theorem Qn.dep_pos (q : Qn) : 1 ≤ q.dep := by cases q <;> simp [Qn.dep]
section
variable {T : Nat → Option FDef} (h : Com T) {W n : Nat}
include h
theorem run_between (i lo hi : Int) (st : Store) : run T W (n + 1) 12 [.int i, .int lo, .int hi] st = .ok (.bl (decide (lo ≤ i) && decide (i ≤ hi))) st := by
  rw [run_def (h.at_ 12 _ rfl)]
  refine runBody_ret rfl ?_ rfl
  simp [startP, D_is_between]
theorem run_words (x : Txt) (lo hi : Int) (st : Store) (hx : x.length ≤ SL) : run T W (n + 1) 13 [.str x, .int lo, .int hi] st = .ok (.bl (decide (lo ≤ x.length) && decide (x.length ≤ hi) && x.all wordB)) st := by
  rw [run_def (h.at_ 13 _ rfl)]
  refine runBody_ret rfl ?_ rfl
  simp [startP, D_are_words, hx]
  by_cases h1 : lo ≤ x.length
  · by_cases h2 : (x.length : Int) ≤ hi
    · simp only [h1, h2, decide_true]
      rw [comp_map (fun c => some (.bl (wordB c))) (fun c hc => ?_) hx]
      · simp
      · simp [infix_word]
    · simp [h1, h2]
  · simp [h1]
theorem run_words1 {v : Nat} (hv : wordB v = true) (st : Store) : run T W (n + 1) 13 [.str [v], .int 1, .int 1] st = .ok (.bl true) st := by
  rw [run_words h _ _ _ _ (le_SL (by simp))]
  simp [hv]
theorem run_simple (q : Qn) (hq : q.ok) (hd : q.dep = 1) (st : Store) : run T W (n + 2) 14 [q.pv] st = .ok (.bl true) st := by
  rw [run_def (h.at_ 14 _ rfl)]
  refine runBody_ret rfl ?_ rfl
  cases q with
  | word v => simp [startP, D_is_simple, Qn.pv, cutL, run_words1 h hq]
  | begin_ v => simp [startP, D_is_simple, Qn.pv, cutL, run_words1 h hq]
  | end_ v => simp [startP, D_is_simple, Qn.pv, cutL, run_words1 h hq]
  | row x =>
    obtain ⟨h1, h2, h3⟩ := hq
    simp [startP, D_is_simple, Qn.pv, cutL, run_words h x 2 3 st (le_SL (by omega)), h1]
    omega
  | often v k =>
    obtain ⟨h1, h2, h3⟩ := hq
    simp [startP, D_is_simple, Qn.pv, cutL, run_words1 h h1, run_between h]
    omega
  | near v w g =>
    obtain ⟨h1, h2, h3⟩ := hq
    simp [startP, D_is_simple, Qn.pv, cutL, run_words1 h h1, run_between h]
    simp [cutL, clampI, compL, Src.next, run_words1 h h1, run_words1 h h2, boolsOf]
    omega
  | before v w g =>
    obtain ⟨h1, h2, h3⟩ := hq
    simp [startP, D_is_simple, Qn.pv, cutL, run_words1 h h1, run_between h]
    simp [cutL, clampI, compL, Src.next, run_words1 h h1, run_words1 h h2, boolsOf]
    omega
  | not_ q => have := q.dep_pos; simp [Qn.dep] at hd; omega
  | and_ q r => have := q.dep_pos; have := r.dep_pos; simp [Qn.dep] at hd; omega
  | or_ q r => have := q.dep_pos; have := r.dep_pos; simp [Qn.dep] at hd; omega
theorem run_atMost : ∀ (q : Qn) (d : Nat), q.ok → q.dep ≤ d → ∀ (k : Nat) (st : Store), q.dep < k → run T W (k + 1) 15 [q.pv, .int d] st = .ok (.bl true) st := by
  intro q
  have simple : ∀ (q : Qn) (d : Nat), q.ok → q.dep = 1 → 1 ≤ d → ∀ (k : Nat) (st : Store), 1 < k → run T W (k + 1) 15 [q.pv, .int d] st = .ok (.bl true) st := by
    intro q d hq h1 hd k st hk
    rw [run_def (h.at_ 15 _ rfl)]
    refine runBody_ret rfl ?_ rfl
    obtain ⟨k, rfl⟩ : ∃ j, k = j + 2 := ⟨k - 2, by omega⟩
    have hs := run_simple h (W := W) (n := k) q hq h1 st
    have hd2 : ¬ (d : Int) < 1 := by omega
    cases q with
    | not_ q => have := q.dep_pos; simp [Qn.dep] at h1; omega
    | and_ q r => have := q.dep_pos; simp [Qn.dep] at h1; omega
    | or_ q r => have := q.dep_pos; simp [Qn.dep] at h1; omega
    | _ => simp [Qn.pv] at hs; simp [startP, D_is_at_most, Qn.pv, hd2, hs]
  induction q with
  | not_ q ih =>
    intro d hq hd k st hk
    simp only [Qn.dep] at hd hk
    have := q.dep_pos
    rw [run_def (h.at_ 15 _ rfl)]
    refine runBody_ret rfl ?_ rfl
    obtain ⟨k, rfl⟩ : ∃ j, k = j + 1 := ⟨k - 1, by omega⟩
    have hs := ih (d - 1) hq (by omega) k st (by omega)
    have hd2 : ¬ (d : Int) < 1 := by omega
    have hd3 : (d : Int) - 1 = ((d - 1 : Nat) : Int) := by omega
    simp [startP, D_is_at_most, Qn.pv, hd2, hd3, hs]
  | and_ q r ih1 ih2 =>
    intro d hq hd k st hk
    simp only [Qn.dep] at hd hk
    have := q.dep_pos
    rw [run_def (h.at_ 15 _ rfl)]
    refine runBody_ret rfl ?_ rfl
    obtain ⟨k, rfl⟩ : ∃ j, k = j + 1 := ⟨k - 1, by omega⟩
    have hs1 := ih1 (d - 1) hq.1 (by omega) k st (by omega)
    have hs2 := ih2 (d - 1) hq.2 (by omega) k st (by omega)
    have hd2 : ¬ (d : Int) < 1 := by omega
    have hd3 : (d : Int) - 1 = ((d - 1 : Nat) : Int) := by omega
    simp [startP, D_is_at_most, Qn.pv, hd2]
    simp [cutL, clampI, compL, Src.next, hd3, hs1, hs2, boolsOf]
  | or_ q r ih1 ih2 =>
    intro d hq hd k st hk
    simp only [Qn.dep] at hd hk
    have := q.dep_pos
    rw [run_def (h.at_ 15 _ rfl)]
    refine runBody_ret rfl ?_ rfl
    obtain ⟨k, rfl⟩ : ∃ j, k = j + 1 := ⟨k - 1, by omega⟩
    have hs1 := ih1 (d - 1) hq.1 (by omega) k st (by omega)
    have hs2 := ih2 (d - 1) hq.2 (by omega) k st (by omega)
    have hd2 : ¬ (d : Int) < 1 := by omega
    have hd3 : (d : Int) - 1 = ((d - 1 : Nat) : Int) := by omega
    simp [startP, D_is_at_most, Qn.pv, hd2]
    simp [cutL, clampI, compL, Src.next, hd3, hs1, hs2, boolsOf]
  | _ => intro d hq hd k st hk; exact simple _ d hq rfl (by simpa [Qn.dep] using hd) k st (by simpa [Qn.dep] using hk)
theorem run_question {q : Qn} (hq : q.ok) (hd : q.dep ≤ 3) (st : Store) : run T W (n + 6) 16 [q.pv] st = .ok (.bl true) st := by
  rw [run_def (h.at_ 16 _ rfl)]
  refine runBody_ret rfl ?_ rfl
  have := run_atMost h (W := W) q 3 hq hd (n + 4) st (by omega)
  simp [startP, D_is_question]
  exact congrArg (fun r => R.bind r _) this
theorem run_checkQ {q : Qn} (hq : q.ok) (hd : q.dep ≤ 3) (st : Store) : run T W (n + 7) 17 [q.pv] st = .ok .non st := by
  rw [run_def (h.at_ 17 _ rfl)]
  refine runBody_next (ps := [some q.pv]) rfl ?_ rfl
  simp [startP, D_check_question, run_question h hq hd]
theorem run_checkT {x : Txt} (hx : x.all wordB = true) (hl : x.length ≤ 60) (st : Store) : run T W (n + 2) 18 [.str x] st = .ok .non st := by
  rw [run_def (h.at_ 18 _ rfl)]
  refine runBody_next (ps := [some (.str x)]) rfl ?_ rfl
  have := run_words h (W := W) (n := n) x 0 60 st (le_SL (by omega))
  have h2 : (x.length : Int) ≤ 60 := by omega
  simp [startP, D_check_text, this, hx, h2]
theorem run_depthOf : ∀ (q : Qn) (k : Nat) (st : Store), q.dep ≤ k → run T W k 19 [q.pv] st = .ok (.int q.dep) st := by
  intro q
  induction q with
  | not_ q ih =>
    intro k st hk
    simp only [Qn.dep] at hk
    obtain ⟨k, rfl⟩ : ∃ j, k = j + 1 := ⟨k - 1, by omega⟩
    rw [run_def (h.at_ 19 _ rfl)]
    refine runBody_ret rfl ?_ rfl
    simp [startP, D_depth_of, Qn.pv, ih k st (by omega), Qn.dep]
    omega
  | and_ q r ih1 ih2 =>
    intro k st hk
    simp only [Qn.dep] at hk
    obtain ⟨k, rfl⟩ : ∃ j, k = j + 1 := ⟨k - 1, by omega⟩
    rw [run_def (h.at_ 19 _ rfl)]
    refine runBody_ret rfl ?_ rfl
    simp [startP, D_depth_of, Qn.pv, ih1 k st (by omega), ih2 k st (by omega), Qn.dep, b2P]
    split <;> omega
  | or_ q r ih1 ih2 =>
    intro k st hk
    simp only [Qn.dep] at hk
    obtain ⟨k, rfl⟩ : ∃ j, k = j + 1 := ⟨k - 1, by omega⟩
    rw [run_def (h.at_ 19 _ rfl)]
    refine runBody_ret rfl ?_ rfl
    simp [startP, D_depth_of, Qn.pv, ih1 k st (by omega), ih2 k st (by omega), Qn.dep, b2P]
    split <;> omega
  | _ =>
    intro k st hk
    simp only [Qn.dep] at hk
    obtain ⟨k, rfl⟩ : ∃ j, k = j + 1 := ⟨k - 1, by omega⟩
    rw [run_def (h.at_ 19 _ rfl)]
    refine runBody_ret rfl ?_ rfl
    simp [startP, D_depth_of, Qn.pv, Qn.dep]
theorem run_depth {q : Qn} (hq : q.ok) (hd : q.dep ≤ 3) (st : Store) : run T W (n + 8) 20 [q.pv] st = .ok (.int q.dep) st := by
  rw [run_def (h.at_ 20 _ rfl)]
  refine runBody_ret rfl ?_ rfl
  simp [startP, D_depth, run_checkQ h hq hd, run_depthOf h q (n + 7) st (by omega)]
end
end Wf
/-! What a question finds. -/
namespace Wf
def closeB (t : Txt) (v w g : Nat) : Bool := t.zipIdx.any fun p => decide (p.1 = v) && infixB [w] (cutL t (clampI t.length (p.2 + 1)) (clampI t.length (p.2 + 2 + g)))
def Qn.find (t : Txt) : Qn → Bool
  | .word v => infixB [v] t
  | .row x => infixB x t
  | .begin_ v => decide (cutL t 0 (clampI t.length 1) = [v])
  | .end_ v => decide (cutL t (clampI t.length (-1)) t.length = [v])
  | .often v k => decide ((k : Int) ≤ (t.count v : Nat))
  | .near v w g => closeB t w v g || closeB t v w g
  | .before v w g => closeB t v w g
  | .not_ q => !(q.find t)
  | .and_ q r => q.find t && r.find t
  | .or_ q r => q.find t || r.find t
theorem mapIdx_zip {α β : Type} (f : Nat → α → β) (l : List α) : l.mapIdx f = l.zipIdx.map fun p => f p.2 p.1 := by
  rw [List.mapIdx_eq_zipIdx_map]
section
variable {T : Nat → Option FDef} (h : Com T) {W n : Nat}
include h
theorem run_close (t : Txt) (v w g : Nat) (ht : t.length ≤ SL) (st : Store) : run T W (n + 1) 21 [.str t, .str [v], .str [w], .int g] st = .ok (.bl (closeB t v w g)) st := by
  rw [run_def (h.at_ 21 _ rfl)]
  refine runBody_ret rfl ?_ rfl
  simp [startP, D_are_close, ht]
  rw [mapIdx_zip, ← List.length_zipIdx (l := t) (i := 0), comp_map (fun p => some (.bl (decide (p.1 = v) && infixB [w] (cutL t (clampI t.length (p.2 + 1)) (clampI t.length (p.2 + 2 + g)))))) (fun p hp => ?_) (by simpa using ht)]
  · simp [closeB]
  · simp [startP, ht]
theorem run_find : ∀ (q : Qn) (t : Txt) (k : Nat) (st : Store), t.length ≤ SL → q.dep < k → run T W k 22 [q.pv, .str t] st = .ok (.bl (q.find t)) st := by
  intro q t
  induction q with
  | not_ q ih =>
    intro k st ht hk
    simp only [Qn.dep] at hk
    obtain ⟨k, rfl⟩ : ∃ j, k = j + 1 := ⟨k - 1, by omega⟩
    rw [run_def (h.at_ 22 _ rfl)]
    refine runBody_ret rfl ?_ rfl
    simp [startP, D_does_find, Qn.pv, Qn.find, ih k st ht (by omega)]
  | and_ q r ih1 ih2 =>
    intro k st ht hk
    simp only [Qn.dep] at hk
    obtain ⟨k, rfl⟩ : ∃ j, k = j + 1 := ⟨k - 1, by omega⟩
    rw [run_def (h.at_ 22 _ rfl)]
    refine runBody_ret rfl ?_ rfl
    simp [startP, D_does_find, Qn.pv, Qn.find, ih1 k st ht (by omega), ih2 k st ht (by omega)]
  | or_ q r ih1 ih2 =>
    intro k st ht hk
    simp only [Qn.dep] at hk
    obtain ⟨k, rfl⟩ : ∃ j, k = j + 1 := ⟨k - 1, by omega⟩
    rw [run_def (h.at_ 22 _ rfl)]
    refine runBody_ret rfl ?_ rfl
    simp [startP, D_does_find, Qn.pv, Qn.find, ih1 k st ht (by omega), ih2 k st ht (by omega)]
  | near v w g =>
    intro k st ht hk
    simp only [Qn.dep] at hk
    obtain ⟨k, rfl⟩ : ∃ j, k = j + 2 := ⟨k - 2, by omega⟩
    rw [run_def (h.at_ 22 _ rfl)]
    refine runBody_ret rfl ?_ rfl
    simp [startP, D_does_find, Qn.pv, Qn.find, run_close h _ _ _ _ ht, ht]
    cases closeB t w v g <;> simp [run_close h _ _ _ _ ht]
  | _ =>
    intro k st ht hk
    simp only [Qn.dep] at hk
    obtain ⟨k, rfl⟩ : ∃ j, k = j + 2 := ⟨k - 2, by omega⟩
    rw [run_def (h.at_ 22 _ rfl)]
    refine runBody_ret rfl ?_ rfl
    simp [startP, D_does_find, Qn.pv, Qn.find, run_close h _ _ _ _ ht, ht, m1P]
theorem run_finds {q : Qn} (hq : q.ok) (hd : q.dep ≤ 3) {t : Txt} (ht : t.all wordB = true) (hl : t.length ≤ 60) (st : Store) : run T W (n + 8) 23 [q.pv, .str t] st = .ok (.bl (q.find t)) st := by
  rw [run_def (h.at_ 23 _ rfl)]
  refine runBody_ret rfl ?_ rfl
  simp [startP, D_finds, run_checkQ h hq hd, run_checkT h ht hl, run_find h q t (n + 7) st (le_SL (by omega)) (by omega)]
theorem run_among {q : Qn} (hq : q.ok) (hd : q.dep ≤ 3) {ts : List Txt} (ht : ∀ t ∈ ts, t.all wordB = true ∧ t.length ≤ 60) (hl : ts.length ≤ 20) (st : Store) : run T W (n + 8) 24 [q.pv, .tup (ts.map .str)] st = .ok (.tup ((ts.filter fun t => q.find t).map .str)) st := by
  rw [run_def (h.at_ 24 _ rfl)]
  refine runBody_ret rfl ?_ rfl
  have hl2 : ¬ (20 : Int) < ts.length := by omega
  have hl3 : ts.length ≤ SL := le_SL (by omega)
  simp [startP, D_found_among, run_checkQ h hq hd, hl2]
  rw [comp_map (fun t => some (.bl true)) (fun t h1 => ?_) hl3]
  · simp
    rw [comp_map (fun t => if q.find t then some (.str t) else none) (fun t h1 => ?_) hl3]
    · simp only [R.bind_ok, tuple_lst, R.of_some]
      rw [fm_if]
    · simp [startP, run_find h q t (n + 7) st (le_SL (by have := (ht t h1).2; omega)) (by omega)]
      cases q.find t <;> rfl
  · have := run_words h (W := W) (n := n + 6) t 0 60 st (le_SL (by have := (ht t h1).2; omega))
    have h2 : (t.length : Int) ≤ 60 := by have := (ht t h1).2; omega
    simp [startP, this, (ht t h1).1, h2]
end
end Wf
/-! What the laws' own reading of a question finds. -/
namespace Wf
/-- the word at a place -/
def tc (t : Txt) (k : Nat) : Nat := t[k]?.getD 0
def plc (t x : Txt) : List Nat := (List.range t.length).filter fun k => decide ([tc t k] = x)
def rws (t x : Txt) : List Nat := (List.range t.length).filter fun k => decide (cutL t (clampI t.length k) (clampI t.length (k + x.length)) = x)
def oth (near : Bool) (ks : List Nat) (p g : Nat) : List Nat := ks.filter fun k => (decide (0 < (k : Int) - p) && decide ((k : Int) - p ≤ g + 1)) || (near && (decide (0 < (p : Int) - k) && decide ((p : Int) - k ≤ g + 1)))
def Qn.lawF (t : Txt) : Qn → Bool
  | .word v => !decide (plc t [v] = [])
  | .row x => !decide (rws t x = [])
  | .begin_ v => decide (0 < t.length) && decide ([tc t 0] = [v])
  | .end_ v => decide (0 < t.length) && decide ([tc t (t.length - 1)] = [v])
  | .often v k => decide ((k : Int) ≤ (plc t [v]).length)
  | .near v w g => (plc t [v]).any fun p => !decide (oth true (plc t [w]) p g = [])
  | .before v w g => (plc t [v]).any fun p => !decide (oth false (plc t [w]) p g = [])
  | .not_ q => !(q.lawF t)
  | .and_ q r => q.lawF t && r.lawF t
  | .or_ q r => q.lawF t || r.lawF t
theorem rng_len {n : Nat} (h : n ≤ SL) (st : Store) : rngP (.int (n : Int)) st = .ok (.vals ((List.range n).map fun k => .int (k : Nat))) st := by
  have h2 : n ≤ 16777216 := h
  rw [rngP_int, if_pos ⟨by omega, by omega⟩]
  rfl
theorem tc_at {t : Txt} {k : Nat} (h : k < t.length) : t[k]? = some (tc t k) := by
  unfold tc
  rw [List.getElem?_eq_getElem h]
  rfl
theorem ints_nil (st : Store) (is : List Nat) : opP st .ne (.lst (is.map fun k => PV.int (k : Nat))) (.lst []) = some (.bl (!decide (is = []))) := by
  have := kd_int.lst.ne (by decide) st (a := is.map Int.ofNat) (b := []) (fun _ _ => trivial) (fun _ _ => trivial)
  rw [List.map_map] at this
  refine Eq.trans this ?_
  simp
theorem in_bools1 (st : Store) (b x : Bool) : opP st .in_ (.bl b) (.lst [.bl x]) = some (.bl (decide (x = b))) := by
  cases b <;> cases x <;> rfl
theorem in_bools2 (st : Store) (b x y : Bool) : opP st .in_ (.bl b) (.lst [.bl x, .bl y]) = some (.bl (decide (x = b) || decide (y = b))) := by
  cases b <;> cases x <;> cases y <;> rfl
theorem nin_bools1 (st : Store) (b x : Bool) : opP st .nin (.bl b) (.lst [.bl x]) = some (.bl (!decide (x = b))) := by
  cases b <;> cases x <;> rfl
theorem nin_bools2 (st : Store) (b x y : Bool) : opP st .nin (.bl b) (.lst [.bl x, .bl y]) = some (.bl (!(decide (x = b) || decide (y = b)))) := by
  cases b <;> cases x <;> cases y <;> rfl
theorem max_one (i : Int) : maxI [i] = some i := by
  simp [maxI, PySem.argBest]
theorem max_two (i j : Int) : maxI [i, j] = some (max i j) := by
  simp [maxI, PySem.argBest]
  split
  · simp; omega
  · simp; omega
theorem asg_two (i j : Nat) (x y : PV) (ps : Slots) : asg (.many [i, j]) (.tup [x, y]) ps = some ((ps.set i (some x)).set j (some y)) := rfl
section
variable {T : Nat → Option FDef} (h : Com T) {W n : Nat}
include h
theorem run_lawF : ∀ (q : Qn) (t : Txt) (k : Nat) (st : Store), q.ok → t.length ≤ SL → q.dep ≤ k → run T W k 8 [q.pv, .str t] st = .ok (.bl (q.lawF t)) st := by
  intro q t
  induction q with
  | not_ q ih =>
    intro k st hq ht hk
    simp only [Qn.dep] at hk
    obtain ⟨k, rfl⟩ : ∃ j, k = j + 1 := ⟨k - 1, by omega⟩
    rw [run_def (h.at_ 8 _ rfl)]
    refine runBody_ret rfl ?_ rfl
    simp [startP, D__law_finds, Qn.pv, Qn.lawF, asg_two, compL, Src.next, ih k st hq ht (by omega), nin_bools1, in_bools1, List.lookup]
  | and_ q r ih1 ih2 =>
    intro k st hq ht hk
    simp only [Qn.dep] at hk
    obtain ⟨k, rfl⟩ : ∃ j, k = j + 1 := ⟨k - 1, by omega⟩
    rw [run_def (h.at_ 8 _ rfl)]
    refine runBody_ret rfl ?_ rfl
    simp [startP, D__law_finds, Qn.pv, Qn.lawF, asg_two, compL, Src.next, ih1 k st hq.1 ht (by omega), ih2 k st hq.2 ht (by omega), nin_bools2, in_bools2, List.lookup]
  | or_ q r ih1 ih2 =>
    intro k st hq ht hk
    simp only [Qn.dep] at hk
    obtain ⟨k, rfl⟩ : ∃ j, k = j + 1 := ⟨k - 1, by omega⟩
    rw [run_def (h.at_ 8 _ rfl)]
    refine runBody_ret rfl ?_ rfl
    simp [startP, D__law_finds, Qn.pv, Qn.lawF, asg_two, compL, Src.next, ih1 k st hq.1 ht (by omega), ih2 k st hq.2 ht (by omega), nin_bools2, in_bools2, List.lookup]
  | word v =>
    intro k st hq ht hk
    simp only [Qn.dep] at hk
    obtain ⟨k, rfl⟩ : ∃ j, k = j + 1 := ⟨k - 1, by omega⟩
    rw [run_def (h.at_ 8 _ rfl)]
    refine runBody_ret rfl ?_ rfl
    simp [startP, D__law_finds, Qn.pv, Qn.lawF, asg_two, ht, rng_len ht]
    rw [comp_range (fun k => decide ([tc t k] = [v])) (fun k => .int (k : Nat)) (fun k hk => ?_) ht]
    · rw [show ((List.range t.length).filter fun k => decide ([tc t k] = [v])) = plc t [v] from rfl]
      simp [startP, ints_nil]
    · simp [startP, tc_at hk, ht]
      by_cases e : tc t k = v <;> simp [e]
  | often v j =>
    intro k st hq ht hk
    simp only [Qn.dep] at hk
    obtain ⟨k, rfl⟩ : ∃ j, k = j + 1 := ⟨k - 1, by omega⟩
    rw [run_def (h.at_ 8 _ rfl)]
    refine runBody_ret rfl ?_ rfl
    simp [startP, D__law_finds, Qn.pv, Qn.lawF, asg_two, ht, rng_len ht]
    rw [comp_range (fun k => decide ([tc t k] = [v])) (fun k => .int (k : Nat)) (fun k hk => ?_) ht]
    · rw [show ((List.range t.length).filter fun k => decide ([tc t k] = [v])) = plc t [v] from rfl]
      simp [startP, ints_nil]
    · simp [startP, tc_at hk, ht]
      by_cases e : tc t k = v <;> simp [e]
  | row x =>
    intro k st hq ht hk
    simp only [Qn.dep] at hk
    obtain ⟨k, rfl⟩ : ∃ j, k = j + 1 := ⟨k - 1, by omega⟩
    rw [run_def (h.at_ 8 _ rfl)]
    refine runBody_ret rfl ?_ rfl
    simp [startP, D__law_finds, Qn.pv, Qn.lawF, asg_two, ht, rng_len ht]
    rw [comp_range (fun k => decide ([tc t k] = x)) (fun k => .int (k : Nat)) (fun k hk => ?_) ht]
    · simp [startP, ht, rng_len ht]
      rw [comp_range (fun k => decide (cutL t (clampI t.length k) (clampI t.length (k + x.length)) = x)) (fun k => .int (k : Nat)) (fun k hk => ?_) ht]
      · rw [show ((List.range t.length).filter fun (k : Nat) => decide (cutL t (clampI t.length k) (clampI t.length (k + x.length)) = x)) = rws t x from rfl]
        simp [startP, ints_nil]
      · have hx : x.length ≤ SL := le_SL (by have := hq.2.2; omega)
        simp [startP, ht, hx]
        by_cases e : cutL t (clampI t.length k) (clampI t.length (k + x.length)) = x <;> simp [e]
    · simp [startP, tc_at hk, ht]
      by_cases e : [tc t k] = x <;> simp [e]
  | begin_ v =>
    intro k st hq ht hk
    simp only [Qn.dep] at hk
    obtain ⟨k, rfl⟩ : ∃ j, k = j + 1 := ⟨k - 1, by omega⟩
    rw [run_def (h.at_ 8 _ rfl)]
    refine runBody_ret rfl ?_ rfl
    simp [startP, D__law_finds, Qn.pv, Qn.lawF, asg_two, ht, rng_len ht]
    rw [comp_range (fun k => decide ([tc t k] = [v])) (fun k => .int (k : Nat)) (fun k hk => ?_) ht]
    · simp [startP, ht, rng_len ht]
      by_cases e : 0 < t.length
      · have h0 : atP t 0 = some (tc t 0) := by rw [at_nat (by omega)]; exact tc_at e
        simp [e, h0]
      · simp [e]
    · simp [startP, tc_at hk, ht]
      by_cases e : tc t k = v <;> simp [e]
  | end_ v =>
    intro k st hq ht hk
    simp only [Qn.dep] at hk
    obtain ⟨k, rfl⟩ : ∃ j, k = j + 1 := ⟨k - 1, by omega⟩
    rw [run_def (h.at_ 8 _ rfl)]
    refine runBody_ret rfl ?_ rfl
    simp [startP, D__law_finds, Qn.pv, Qn.lawF, asg_two, ht, rng_len ht]
    rw [comp_range (fun k => decide ([tc t k] = [v])) (fun k => .int (k : Nat)) (fun k hk => ?_) ht]
    · simp [startP, ht, rng_len ht]
      by_cases e : 0 < t.length
      · have h0 : atP t ((t.length : Int) - 1) = some (tc t (t.length - 1)) := by
          rw [at_nat (by omega), show ((t.length : Int) - 1).toNat = t.length - 1 by omega]
          exact tc_at (by omega)
        simp [e, h0]
      · simp [e]
    · simp [startP, tc_at hk, ht]
      by_cases e : tc t k = v <;> simp [e]
  | near v w g =>
    intro k st hq ht hk
    simp only [Qn.dep] at hk
    obtain ⟨k, rfl⟩ : ∃ j, k = j + 1 := ⟨k - 1, by omega⟩
    rw [run_def (h.at_ 8 _ rfl)]
    refine runBody_ret rfl ?_ rfl
    have pl : ∀ x, (plc t x).length ≤ SL := fun x => Nat.le_trans (List.length_filter_le _ _) (by rw [List.length_range]; exact ht)
    simp [startP, D__law_finds, Qn.pv, Qn.lawF, asg_two, ht, rng_len ht]
    rw [comp_range (fun k => decide ([tc t k] = [v])) (fun k => .int (k : Nat)) (fun k hk => ?_) ht]
    · rw [show ((List.range t.length).filter fun k => decide ([tc t k] = [v])) = plc t [v] from rfl]
      simp [startP, ht, rng_len ht]
      rw [comp_range (fun k => decide ([tc t k] = [w])) (fun k => .int (k : Nat)) (fun k hk => ?_) ht]
      · rw [show ((List.range t.length).filter fun k => decide ([tc t k] = [w])) = plc t [w] from rfl]
        simp [startP, ht, rng_len ht]
        generalize hturn : forTurn _ _ _ _ = turn
        have loop := for_find (turn := turn) (fun ps => ∃ a b, ps = [some (PV.tup [PV.str [110, 101, 97, 114], PV.str [v], PV.str [w], PV.int g]), some (PV.str t), some (PV.lst ((plc t [v]).map fun k => PV.int (k : Nat))), some (PV.lst ((plc t [w]).map fun k => PV.int (k : Nat))), a, some (PV.str [110, 101, 97, 114]), some (PV.tup [PV.str [v], PV.str [w], PV.int g]), none, b, none, none])
          (fun x => match x with | .int p => !decide (oth true (plc t [w]) p.toNat g = []) | _ => false) (.bl true) (st := st) (xs := (plc t [v]).map fun k => PV.int (k : Nat)) (fun x hx ps hj => ?_) ⟨none, none, rfl⟩
        · rw [List.any_map, List.length_map] at loop
          by_cases e : ((plc t [v]).any fun p => !decide (oth true (plc t [w]) p g = [])) = true
          · rw [if_pos (by simpa using e)] at loop
            rw [loop, e]
            simp
          · rw [if_neg (by simpa using e)] at loop
            obtain ⟨ps', e1, _⟩ := loop
            rw [e1, Bool.eq_false_iff.mpr e]
            simp
        · obtain ⟨a, b, rfl⟩ := hj
          obtain ⟨p, hp, rfl⟩ := List.mem_map.mp hx
          rw [← hturn]
          unfold forTurn
          simp [startP, List.set]
          rw [comp_nats (fun k => (decide (0 < (k : Int) - p) && decide ((k : Int) - p ≤ g + 1)) || (true && (decide (0 < (p : Int) - k) && decide ((p : Int) - k ≤ g + 1)))) (fun k => .int (k : Nat)) (fun k hk => ?_) (pl _)]
          · rw [show ((plc t [w]).filter fun (k : Nat) => (decide (0 < (k : Int) - p) && decide ((k : Int) - p ≤ g + 1)) || (true && (decide (0 < (p : Int) - k) && decide ((p : Int) - k ≤ g + 1)))) = oth true (plc t [w]) p g from rfl]
            simp [startP, ints_nil]
            by_cases e : oth true (plc t [w]) p g = [] <;> simp [e]
          · simp [startP, List.set]
            split <;> rfl
      · simp [startP, tc_at hk, ht]
        by_cases e : tc t k = w <;> simp [e]
    · simp [startP, tc_at hk, ht]
      by_cases e : tc t k = v <;> simp [e]
  | before v w g =>
    intro k st hq ht hk
    simp only [Qn.dep] at hk
    obtain ⟨k, rfl⟩ : ∃ j, k = j + 1 := ⟨k - 1, by omega⟩
    rw [run_def (h.at_ 8 _ rfl)]
    refine runBody_ret rfl ?_ rfl
    have pl : ∀ x, (plc t x).length ≤ SL := fun x => Nat.le_trans (List.length_filter_le _ _) (by rw [List.length_range]; exact ht)
    simp [startP, D__law_finds, Qn.pv, Qn.lawF, asg_two, ht, rng_len ht]
    rw [comp_range (fun k => decide ([tc t k] = [v])) (fun k => .int (k : Nat)) (fun k hk => ?_) ht]
    · rw [show ((List.range t.length).filter fun k => decide ([tc t k] = [v])) = plc t [v] from rfl]
      simp [startP, ht, rng_len ht]
      rw [comp_range (fun k => decide ([tc t k] = [w])) (fun k => .int (k : Nat)) (fun k hk => ?_) ht]
      · rw [show ((List.range t.length).filter fun k => decide ([tc t k] = [w])) = plc t [w] from rfl]
        simp [startP, ht, rng_len ht]
        generalize hturn : forTurn _ _ _ _ = turn
        have loop := for_find (turn := turn) (fun ps => ∃ a b, ps = [some (PV.tup [PV.str [98, 101, 102, 111, 114, 101], PV.str [v], PV.str [w], PV.int g]), some (PV.str t), some (PV.lst ((plc t [v]).map fun k => PV.int (k : Nat))), some (PV.lst ((plc t [w]).map fun k => PV.int (k : Nat))), a, some (PV.str [98, 101, 102, 111, 114, 101]), some (PV.tup [PV.str [v], PV.str [w], PV.int g]), none, b, none, none])
          (fun x => match x with | .int p => !decide (oth false (plc t [w]) p.toNat g = []) | _ => false) (.bl true) (st := st) (xs := (plc t [v]).map fun k => PV.int (k : Nat)) (fun x hx ps hj => ?_) ⟨none, none, rfl⟩
        · rw [List.any_map, List.length_map] at loop
          by_cases e : ((plc t [v]).any fun p => !decide (oth false (plc t [w]) p g = [])) = true
          · rw [if_pos (by simpa using e)] at loop
            rw [loop, e]
            simp
          · rw [if_neg (by simpa using e)] at loop
            obtain ⟨ps', e1, _⟩ := loop
            rw [e1, Bool.eq_false_iff.mpr e]
            simp
        · obtain ⟨a, b, rfl⟩ := hj
          obtain ⟨p, hp, rfl⟩ := List.mem_map.mp hx
          rw [← hturn]
          unfold forTurn
          simp [startP, List.set]
          rw [comp_nats (fun k => (decide (0 < (k : Int) - p) && decide ((k : Int) - p ≤ g + 1)) || (false && (decide (0 < (p : Int) - k) && decide ((p : Int) - k ≤ g + 1)))) (fun k => .int (k : Nat)) (fun k hk => ?_) (pl _)]
          · rw [show ((plc t [w]).filter fun (k : Nat) => (decide (0 < (k : Int) - p) && decide ((k : Int) - p ≤ g + 1)) || (false && (decide (0 < (p : Int) - k) && decide ((p : Int) - k ≤ g + 1)))) = oth false (plc t [w]) p g from rfl]
            simp [startP, ints_nil]
            by_cases e : oth false (plc t [w]) p g = [] <;> simp [e]
          · simp [startP, List.set]
            split <;> rfl
      · simp [startP, tc_at hk, ht]
        by_cases e : tc t k = w <;> simp [e]
    · simp [startP, tc_at hk, ht]
      by_cases e : tc t k = v <;> simp [e]
theorem run_lawD : ∀ (q : Qn) (k : Nat) (st : Store), q.dep ≤ k → run T W k 9 [q.pv] st = .ok (.int q.dep) st := by
  intro q
  induction q with
  | not_ q ih =>
    intro k st hk
    simp only [Qn.dep] at hk
    obtain ⟨k, rfl⟩ : ∃ j, k = j + 1 := ⟨k - 1, by omega⟩
    rw [run_def (h.at_ 9 _ rfl)]
    refine runBody_ret rfl ?_ rfl
    simp [startP, D__law_depth, Qn.pv, Qn.dep, compL, Src.next, ih k st (by omega), intsOf, max_one]
    omega
  | and_ q r ih1 ih2 =>
    intro k st hk
    simp only [Qn.dep] at hk
    obtain ⟨k, rfl⟩ : ∃ j, k = j + 1 := ⟨k - 1, by omega⟩
    rw [run_def (h.at_ 9 _ rfl)]
    refine runBody_ret rfl ?_ rfl
    simp [startP, D__law_depth, Qn.pv, Qn.dep, compL, Src.next, ih1 k st (by omega), ih2 k st (by omega), intsOf, max_two]
    omega
  | or_ q r ih1 ih2 =>
    intro k st hk
    simp only [Qn.dep] at hk
    obtain ⟨k, rfl⟩ : ∃ j, k = j + 1 := ⟨k - 1, by omega⟩
    rw [run_def (h.at_ 9 _ rfl)]
    refine runBody_ret rfl ?_ rfl
    simp [startP, D__law_depth, Qn.pv, Qn.dep, compL, Src.next, ih1 k st (by omega), ih2 k st (by omega), intsOf, max_two]
    omega
  | _ =>
    intro k st hk
    simp only [Qn.dep] at hk
    obtain ⟨k, rfl⟩ : ∃ j, k = j + 1 := ⟨k - 1, by omega⟩
    rw [run_def (h.at_ 9 _ rfl)]
    refine runBody_ret rfl ?_ rfl
    simp [startP, D__law_depth, Qn.pv, Qn.dep]
end
end Wf
/-! Draws: whatever is drawn lies in its bounds. -/
namespace Wf
def IL (is : List Int) : List PV := is.map .int
/-- the town: a count and as many numbers as the script has; L draws are left for sure -/
def Tw (ns : List Int) (m L : Nat) (st : Store) : Prop := ∃ (c : Int) (cells : List Int), st[m]? = some (.lst (.int c :: IL cells)) ∧ cells.length = ns.length ∧ 0 ≤ c ∧ c + L ≤ 2 ^ 40
/-- nothing but the town has changed -/
def Same (m : Nat) (st st' : Store) : Prop := st'.length = st.length ∧ ∀ j, j ≠ m → st'[j]? = st[j]?
theorem Same.refl (m : Nat) (st : Store) : Same m st st := ⟨rfl, fun _ _ => rfl⟩
theorem Same.trans {m : Nat} {a b c : Store} (h : Same m a b) (g : Same m b c) : Same m a c := ⟨g.1.trans h.1, fun j hj => (g.2 j hj).trans (h.2 j hj)⟩
theorem Same.set {m : Nat} {st : Store} (o : SObj) : Same m st (st.set m o) := ⟨by simp, fun j hj => by rw [List.getElem?_set_ne (Ne.symm hj)]⟩
theorem Tw.less {ns : List Int} {m L K : Nat} {st : Store} (h : Tw ns m L st) (hk : K ≤ L) : Tw ns m K st := by
  obtain ⟨c, cells, h1, h2, h3, h4⟩ := h
  exact ⟨c, cells, h1, h2, h3, by omega⟩
theorem ix_loc {st : Store} {m : Nat} {xs : List PV} (h : st[m]? = some (.lst xs)) (i : Int) : ixP st (.loc m) (.int i) = atP xs i := by
  show (match listOf st (.loc m) with | some xs => atP xs i | none => none) = _
  have : listOf st (.loc m) = some xs := by
    show (match st[m]? with | some (.lst xs) => some xs | _ => none) = _
    rw [h]
  rw [this]
theorem set_loc {st : Store} {m : Nat} {xs : List PV} (h : st[m]? = some (.lst xs)) {k : Int} (h0 : 0 ≤ k) (h1 : k < xs.length) (v : PV) : setP st (.loc m) (.int k) v = some (st.set m (.lst (xs.set k.toNat v))) := by
  show (match st[m]? with | some (.lst xs) => if 0 ≤ k ∧ k < xs.length then some (st.set m (.lst (xs.set k.toNat v))) else none | _ => none) = _
  rw [h]
  exact if_pos ⟨h0, h1⟩
theorem scr_nil (st : Store) (is : List Int) : opP st .eq (.scr (IL is)) (.lst []) = some (.bl (decide (is = []))) := by
  have h := kd_int.lst.eq (by decide) st (a := is) (b := []) (fun _ _ => trivial) (fun _ _ => trivial)
  exact h
theorem il_at {is : List Int} {k : Nat} (h : k < is.length) : (IL is)[k]? = some (.int (is.getD k 0)) := by
  unfold IL
  rw [List.getElem?_map, List.getElem?_eq_getElem h, List.getD_eq_getElem?_getD, List.getElem?_eq_getElem h]
  rfl
theorem il_len (is : List Int) : (IL is).length = is.length := by unfold IL; rw [List.length_map]
theorem mod_lt' (a : Int) {b : Int} (h : 0 < b) : 0 ≤ a % b ∧ a % b < b := ⟨Int.emod_nonneg _ (by omega), Int.emod_lt_of_pos _ h⟩
def qc : Nat → Nat
  | 0 => 9
  | d + 1 => 2 + 2 * qc d
theorem qc_ge : ∀ d, 9 ≤ qc d
  | 0 => Nat.le_refl _
  | d + 1 => by have := qc_ge d; simp only [qc]; omega
theorem join_ones : ∀ cs : List Nat, joinT [] (cs.map fun c => [c]) = cs
  | [] => rfl
  | [c] => rfl
  | c :: d :: r => by
    have := join_ones (d :: r)
    simp only [List.map_cons] at this ⊢
    simp only [joinT, this]
    rfl
theorem sum_ones : ∀ cs : List Nat, sumLen (cs.map fun c => [c]) = cs.length
  | [] => rfl
  | c :: r => by simp [sumLen, sum_ones r]; omega
theorem join_one {cs : List Nat} (h : cs.length ≤ 1000) (st : Store) : m1P st .join (.str []) (.lst (cs.map fun c => PV.str [c])) = some (.str cs) := by
  show (match strsOf (cs.map fun c => PV.str [c]) with
      | some ts => if sumLen ts + ts.length * 0 ≤ 16777216 then some (PV.str (joinT [] ts)) else none
      | none => none) = _
  rw [strs_map]
  dsimp only
  rw [sum_ones, join_ones, if_pos (by omega)]
theorem mapped_of {β : Type} {enc : β → PV} {G : β → Prop} : ∀ {ys : List PV}, (∀ y ∈ ys, ∃ b, y = enc b ∧ G b) → ∃ bs : List β, ys = bs.map enc ∧ ∀ b ∈ bs, G b
  | [], _ => ⟨[], rfl, by simp⟩
  | y :: ys, h => by
    obtain ⟨bs, h1, h2⟩ := mapped_of fun z hz => h z (List.mem_cons_of_mem _ hz)
    obtain ⟨b, e, hb⟩ := h y List.mem_cons_self
    refine ⟨b :: bs, by rw [e, h1]; rfl, fun c hc => ?_⟩
    rcases List.mem_cons.mp hc with z | z
    · subst z; exact hb
    · exact h2 c z
/-- a comprehension that draws -/
theorem comp_drawn {β : Type} (enc : β → PV) (G : β → Prop) {turn : PV → Store → R (Option PV)} {ns : List Int} {m c L N : Nat} {st : Store} (hN : N ≤ 1000)
    (ht : ∀ (k L' : Nat) (s : Store), Tw ns m (L' + c) s → ∃ b s', turn (.int (k : Nat)) s = .ok (some (enc b)) s' ∧ G b ∧ Tw ns m L' s' ∧ Same m s s') (tw : Tw ns m (L + N * c) st) :
    ∃ (bs : List β) (st' : Store), compL (.vals ((List.range N).map fun k => .int (k : Nat))) turn (N + 1) 0 [] st = .ok (.lst (bs.map enc)) st' ∧ bs.length = N ∧ (∀ b ∈ bs, G b) ∧ Tw ns m L st' ∧ Same m st st' := by
  obtain ⟨ys, st', e, l, g, tw', s'⟩ := comp_inv (turn := turn) (fun j s => Tw ns m (L + j * c) s ∧ Same m st s) (fun y => ∃ b, y = enc b ∧ G b) (xs := (List.range N).map fun i => .int (i : Nat)) (k := 0) (st := st) (fun v hv j s hi => by
    obtain ⟨k, _, rfl⟩ := List.mem_map.mp hv
    obtain ⟨b, s', e, hb, tw2, s2⟩ := ht k (L + j * c) s (hi.1.less (by rw [Nat.add_mul]; omega))
    exact ⟨_, s', e, ⟨b, rfl, hb⟩, tw2, hi.2.trans s2⟩) (by simpa using le_SL hN) ⟨tw.less (by simp), Same.refl _ _⟩
  obtain ⟨bs, rfl, hb⟩ := mapped_of g
  rw [List.length_map, List.length_map, List.length_range] at l
  rw [List.length_map, List.length_range] at e
  exact ⟨bs, st', e, l, hb, tw'.less (by omega), s'⟩
section
variable {T : Nat → Option FDef} (h : Com T) {W n : Nat}
include h
theorem run_draw {ns : List Int} {m L : Nat} {st : Store} (lim : Int) (h0 : 0 < lim) (h1 : lim < 1073741824) (tw : Tw ns m (L + 1) st) :
    ∃ r st', run T W (n + 1) 2 [.scr (IL ns), .loc m, .int lim] st = .ok (.int r) st' ∧ 0 ≤ r ∧ r < lim ∧ Tw ns m L st' ∧ Same m st st' := by
  obtain ⟨c, cells, e1, e2, e3, e4⟩ := tw
  have hm : m < st.length := (List.getElem?_eq_some_iff.mp e1).1
  have hs0 : setP st (.loc m) (.int 0) (.int (c + 1)) = some (st.set m (.lst (.int (c + 1) :: IL cells))) := set_loc e1 (by omega) (by simp only [List.length_cons]; omega) _
  generalize hst1 : st.set m (.lst (.int (c + 1) :: IL cells)) = st1 at hs0
  have g1 : st1[m]? = some (.lst (.int (c + 1) :: IL cells)) := by rw [← hst1, List.getElem?_set_self hm]
  have sm1 : Same m st st1 := by rw [← hst1]; exact Same.set _
  have tw1 : Tw ns m L st1 := ⟨c + 1, cells, g1, e2, by omega, by omega⟩
  have i0 := ix_loc g1 0
  have mo : mulOk (c + 1) (c + 1) = true := by simp [mulOk]; omega
  have mo2 : mulOk ((c + 1) * (c + 1)) 7 = true := by simp [mulOk]
  by_cases hn : ns = []
  · refine ⟨(c + 1) * (c + 1) * 7 / 3 % lim, st1, ?_, (mod_lt' _ h0).1, (mod_lt' _ h0).2, tw1, sm1⟩
    rw [run_def (h.at_ 2 _ rfl)]
    refine runBody_ret rfl ?_ sm1.1
    simp [startP, D__law_draw, ix_loc e1, hs0, scr_nil, hn, i0, mo, mo2, h0]
  · have hl : 0 < ns.length := List.length_pos_iff.mpr hn
    have ha := mod_lt' (c + 1) (b := (ns.length : Int)) (by omega)
    obtain ⟨k, hk⟩ : ∃ k : Nat, (c + 1) % (ns.length : Int) = (k : Int) := ⟨((c + 1) % (ns.length : Int)).toNat, by omega⟩
    have hk2 : k < ns.length := by omega
    have ix1 : ixP st1 (.loc m) (.int (1 + (k : Int))) = some (.int (cells.getD k 0)) := by
      rw [ix_loc g1, at_nat (by omega), show (1 + (k : Int)).toNat = k + 1 by omega, List.getElem?_cons_succ]
      exact il_at (by omega)
    have ix2 : (IL ns)[k]? = some (.int (ns.getD k 0)) := il_at hk2
    generalize cells.getD k 0 = left at ix1
    generalize ns.getD k 0 = sk at ix2
    have hs2 := set_loc g1 (k := 1 + (k : Int)) (by omega) (by rw [List.length_cons, il_len]; omega) (.int (left / lim))
    have es : (PV.int (c + 1) :: IL cells).set (1 + (k : Int)).toNat (.int (left / lim)) = .int (c + 1) :: IL (cells.set k (left / lim)) := by
      rw [show (1 + (k : Int)).toNat = k + 1 by omega, List.set_cons_succ]
      unfold IL
      rw [List.map_set]
    rw [es] at hs2
    generalize hst2 : st1.set m (.lst (.int (c + 1) :: IL (cells.set k (left / lim)))) = st2 at hs2
    have hm1 : m < st1.length := by rw [sm1.1]; exact hm
    have g2 : st2[m]? = some (.lst (.int (c + 1) :: IL (cells.set k (left / lim)))) := by rw [← hst2, List.getElem?_set_self hm1]
    have sm2 : Same m st st2 := sm1.trans (by rw [← hst2]; exact Same.set _)
    have tw2 : Tw ns m L st2 := ⟨c + 1, _, g2, by rw [List.length_set]; exact e2, by omega, by omega⟩
    have hl2 : (0 : Int) < ns.length := by omega
    by_cases hb : (1000000000000000000 : Int) ≤ sk ∧ 0 < left
    · refine ⟨left % lim, st2, ?_, (mod_lt' _ h0).1, (mod_lt' _ h0).2, tw2, sm2⟩
      rw [run_def (h.at_ 2 _ rfl)]
      refine runBody_ret rfl ?_ sm2.1
      simp [startP, D__law_draw, ix_loc e1, hs0, scr_nil, hn, i0, il_len, hl, hk, ix1, ix2, hb.1, hb.2, h0, h1, hs2]
    · generalize hx1 : (sk + 104729 * (c + 1)) % 4294967291 = x1
      have b1 := mod_lt' (sk + 104729 * (c + 1)) (b := 4294967291) (by omega)
      rw [hx1] at b1
      generalize hx2 : x1 ^ 5 % 4294967279 = x2
      have b2 := mod_lt' (x1 ^ 5) (b := 4294967279) (by omega)
      rw [hx2] at b2
      have m1 : mulOk 104729 (c + 1) = true := by simp [mulOk]
      have m2 : mulOk (x2 / 64) 69621 = true := by simp [mulOk]
      have nb : x1.natAbs < 18446744073709551616 := by omega
      refine ⟨(x2 / 64 * 69621 + x2) % 4294967231 / 8 % lim, st1, ?_, (mod_lt' _ h0).1, (mod_lt' _ h0).2, tw1, sm1⟩
      rw [run_def (h.at_ 2 _ rfl)]
      refine runBody_ret rfl ?_ sm1.1
      have hb2 : (decide ((1000000000000000000 : Int) ≤ sk) && decide (0 < left)) = false := by
        rw [← Bool.decide_and]; exact decide_eq_false hb
      simp [startP, D__law_draw, ix_loc e1, hs0, scr_nil, hn, i0, il_len, hl, hk, ix1, ix2, h0, h1, m1, m2, hx1, hx2, nb, hb2, hb]
theorem run_pick {ns : List Int} {m L : Nat} {st : Store} (xs : List PV) (h0 : 0 < xs.length) (h1 : xs.length ≤ 1000) (tw : Tw ns m (L + 1) st) :
    ∃ x st', run T W (n + 2) 3 [.scr (IL ns), .loc m, .lst xs] st = .ok x st' ∧ x ∈ xs ∧ Tw ns m L st' ∧ Same m st st' := by
  obtain ⟨r, st1, e1, r0, r1, tw1, s1⟩ := run_draw h (W := W) (n := n) (xs.length : Int) (by omega) (by omega) tw
  obtain ⟨k, rfl⟩ : ∃ k : Nat, r = (k : Int) := ⟨r.toNat, by omega⟩
  have hk : k < xs.length := by omega
  refine ⟨xs[k], st1, ?_, List.getElem_mem hk, tw1, s1⟩
  rw [run_def (h.at_ 3 _ rfl)]
  refine runBody_ret rfl ?_ s1.1
  simp [startP, D__law_pick, e1, List.getElem?_eq_getElem hk]
theorem run_word {ns : List Int} {m L : Nat} {st : Store} (tw : Tw ns m (L + 2) st) :
    ∃ c st', run T W (n + 3) 4 [.scr (IL ns), .loc m] st = .ok (.str [c]) st' ∧ wordB c = true ∧ Tw ns m L st' ∧ Same m st st' := by
  obtain ⟨x, st1, e1, hx, tw1, s1⟩ := run_pick h (W := W) (n := n) [.int 2, .int 3, .int 4] (by simp) (by simp) tw
  obtain ⟨i, rfl, hi0, hi⟩ : ∃ i : Int, x = .int i ∧ 2 ≤ i ∧ i ≤ 4 := by
    simp at hx
    rcases hx with hx | hx | hx <;> exact ⟨_, hx, by omega, by omega⟩
  obtain ⟨r, st2, e2, r0, r1, tw2, s2⟩ := run_draw h (W := W) (n := n + 1) i (by omega) (by omega) tw1
  obtain ⟨k, rfl⟩ : ∃ k : Nat, r = (k : Int) := ⟨r.toNat, by omega⟩
  have hk : k < 4 := by omega
  obtain ⟨c, hc, hw⟩ : ∃ c, [97, 98, 99, 100][k]? = some c ∧ wordB c = true := by
    match k, hk with
    | 0, _ => exact ⟨97, rfl, rfl⟩
    | 1, _ => exact ⟨98, rfl, rfl⟩
    | 2, _ => exact ⟨99, rfl, rfl⟩
    | 3, _ => exact ⟨100, rfl, rfl⟩
  refine ⟨c, st2, ?_, hw, tw2, s1.trans s2⟩
  rw [run_def (h.at_ 4 _ rfl)]
  refine runBody_ret rfl ?_ (s1.trans s2).1
  simp [startP, D__law_word, e1, e2, hc]
theorem run_simpleD {ns : List Int} {m L : Nat} {st : Store} (tw : Tw ns m (L + 8) st) :
    ∃ (q : Qn) (st' : Store), run T W (n + 4) 5 [.scr (IL ns), .loc m] st = .ok q.pv st' ∧ q.ok ∧ q.dep = 1 ∧ Tw ns m L st' ∧ Same m st st' := by
  obtain ⟨r, st1, e1, r0, r1, tw1, s1⟩ := run_draw h (W := W) (n := n + 2) 7 (by omega) (by omega) (tw.less (K := L + 7 + 1) (by omega))
  obtain ⟨v, st2, e2, hv, tw2, s2⟩ := run_word h (W := W) (n := n) (tw1.less (K := L + 5 + 2) (by omega))
  obtain ⟨w, st3, e3, hw, tw3, s3⟩ := run_word h (W := W) (n := n) (tw2.less (K := L + 3 + 2) (by omega))
  have s13 := (s1.trans s2).trans s3
  rw [run_def (h.at_ 5 _ rfl)]
  by_cases c1 : r < 2
  · obtain ⟨u, st4, e4, hu, tw4, s4⟩ := run_word h (W := W) (n := n) (tw3.less (K := L + 1 + 2) (by omega))
    obtain ⟨x, st5, e5, hx, tw5, s5⟩ := run_pick h (W := W) (n := n + 1) [.str [], .str [u]] (by simp) (by simp) tw4
    have s15 := (s13.trans s4).trans s5
    simp at hx
    rcases hx with rfl | rfl
    · refine ⟨.row [v, w], st5, runBody_ret rfl ?_ s15.1, by simp [Qn.ok, hv, hw], rfl, tw5, s15⟩
      simp [startP, D__law_simple, Qn.pv, e1, e2, e3, e4, e5, c1]
    · refine ⟨.row [v, w, u], st5, runBody_ret rfl ?_ s15.1, by simp [Qn.ok, hv, hw, hu], rfl, tw5, s15⟩
      simp [startP, D__law_simple, Qn.pv, e1, e2, e3, e4, e5, c1]
  · by_cases c2 : r < 4
    · obtain ⟨g, st4, e4, g0, g1, tw4, s4⟩ := run_draw h (W := W) (n := n + 2) 3 (by omega) (by omega) (tw3.less (K := L + 1) (by omega))
      obtain ⟨g, rfl⟩ : ∃ k : Nat, g = (k : Int) := ⟨g.toNat, by omega⟩
      have s14 := s13.trans s4
      by_cases c3 : r = 2
      · refine ⟨.near v w g, st4, runBody_ret rfl ?_ s14.1, ⟨hv, hw, by omega⟩, rfl, tw4.less (by omega), s14⟩
        subst c3
        simp [startP, D__law_simple, Qn.pv, e1, e2, e3, e4]
      · have c4 : r = 3 := by omega
        refine ⟨.before v w g, st4, runBody_ret rfl ?_ s14.1, ⟨hv, hw, by omega⟩, rfl, tw4.less (by omega), s14⟩
        subst c4
        simp [startP, D__law_simple, Qn.pv, e1, e2, e3, e4]
    · by_cases c3 : r = 4
      · obtain ⟨g, st4, e4, g0, g1, tw4, s4⟩ := run_draw h (W := W) (n := n + 2) 2 (by omega) (by omega) (tw3.less (K := L + 1) (by omega))
        obtain ⟨g, rfl⟩ : ∃ k : Nat, g = (k : Int) := ⟨g.toNat, by omega⟩
        have s14 := s13.trans s4
        refine ⟨.often v (2 + g), st4, runBody_ret rfl ?_ s14.1, ⟨hv, by omega, by omega⟩, rfl, tw4.less (by omega), s14⟩
        subst c3
        simp [startP, D__law_simple, Qn.pv, e1, e2, e3, e4]
      · obtain ⟨g, st4, e4, g0, g1, tw4, s4⟩ := run_draw h (W := W) (n := n + 2) 3 (by omega) (by omega) (tw3.less (K := L + 1) (by omega))
        obtain ⟨g, rfl⟩ : ∃ k : Nat, g = (k : Int) := ⟨g.toNat, by omega⟩
        have s14 := s13.trans s4
        have fin : ∀ q : Qn, q.ok → q.dep = 1 → ex (run T W (n + 3)) W D__law_simple.body (startP D__law_simple [.scr (IL ns), .loc m]) st = .ok (.ret q.pv) st4 → ∃ (q : Qn) (st' : Store), runBody (run T W (n + 3)) W D__law_simple [.scr (IL ns), .loc m] st = .ok q.pv st' ∧ q.ok ∧ q.dep = 1 ∧ Tw ns m L st' ∧ Same m st st' :=
          fun q ho hd e => ⟨q, st4, runBody_ret rfl e s14.1, ho, hd, tw4.less (by omega), s14⟩
        match g, g1, e4 with
        | 0, _, e4 => exact fin (.begin_ v) hv rfl (by simp [startP, D__law_simple, Qn.pv, e1, e2, e3, e4, c1, c2, c3])
        | 1, _, e4 => exact fin (.end_ v) hv rfl (by simp [startP, D__law_simple, Qn.pv, e1, e2, e3, e4, c1, c2, c3])
        | 2, _, e4 => exact fin (.word v) hv rfl (by simp [startP, D__law_simple, Qn.pv, e1, e2, e3, e4, c1, c2, c3])
        | k + 3, hk, _ => omega
theorem run_questionD {ns : List Int} {m : Nat} : ∀ (d L : Nat) (st : Store), Tw ns m (L + qc d) st →
    ∃ (q : Qn) (st' : Store), run T W (n + 5 + d) 6 [.scr (IL ns), .loc m, .int ((d : Int) + 1)] st = .ok q.pv st' ∧ q.ok ∧ q.dep ≤ d + 1 ∧ Tw ns m L st' ∧ Same m st st' := by
  intro d
  induction d with
  | zero =>
    intro L st tw
    obtain ⟨r, st1, e1, r0, r1, tw1, s1⟩ := run_draw h (W := W) (n := n + 3) 5 (by omega) (by omega) (tw.less (K := L + 8 + 1) (by simp [qc]))
    obtain ⟨q, st2, e2, hq, hd, tw2, s2⟩ := run_simpleD h (W := W) (n := n) tw1
    have s12 := s1.trans s2
    refine ⟨q, st2, ?_, hq, by omega, tw2, s12⟩
    rw [run_def (h.at_ 6 _ rfl)]
    refine runBody_ret rfl ?_ s12.1
    simp [startP, D__law_question, e1, e2]
  | succ d ih =>
    intro L st tw
    have hqc : qc (d + 1) = 2 + 2 * qc d := rfl
    have h9 : 9 ≤ qc d := qc_ge d
    obtain ⟨r, st1, e1, r0, r1, tw1, s1⟩ := run_draw h (W := W) (n := n + 4 + d) 5 (by omega) (by omega) (tw.less (K := L + (1 + 2 * qc d) + 1) (by omega))
    have hdp : ((d + 1 : Nat) : Int) + 1 - 1 = (d : Int) + 1 := by omega
    have hd1 : ¬ (((d : Int) + 1 + 1) = 1) := by omega
    rw [show n + 5 + (d + 1) = n + 4 + d + 1 + 1 by omega, run_def (h.at_ 6 _ rfl)]
    by_cases c0 : r = 0
    · obtain ⟨q, st2, e2, hq, hd, tw2, s2⟩ := run_simpleD h (W := W) (n := n + 1 + d) (tw1.less (K := L + 8) (by omega))
      have s12 := s1.trans s2
      refine ⟨q, st2, runBody_ret rfl ?_ s12.1, hq, by omega, tw2, s12⟩
      subst c0
      rw [show n + 1 + d + 4 = n + 4 + d + 1 by omega] at e2
      simp [startP, D__law_question, e1, e2]
    · by_cases c1 : r = 1
      · obtain ⟨q, st2, e2, hq, hd, tw2, s2⟩ := ih L st1 (tw1.less (by omega))
        have s12 := s1.trans s2
        refine ⟨.not_ q, st2, runBody_ret rfl ?_ s12.1, hq, by simp only [Qn.dep]; omega, tw2, s12⟩
        subst c1
        rw [show n + 5 + d = n + 4 + d + 1 by omega] at e2
        simp [startP, D__law_question, e1, e2, hd1, hdp, Qn.pv]
      · obtain ⟨b, st2, e2, b0, b1, tw2, s2⟩ := run_draw h (W := W) (n := n + 4 + d) 2 (by omega) (by omega) (tw1.less (K := L + 2 * qc d + 1) (by omega))
        obtain ⟨q, st3, e3, hq, hd, tw3, s3⟩ := ih (L + qc d) st2 (tw2.less (by omega))
        obtain ⟨q', st4, e4, hq', hd', tw4, s4⟩ := ih L st3 tw3
        have s14 := ((s1.trans s2).trans s3).trans s4
        rw [show n + 5 + d = n + 4 + d + 1 by omega] at e3 e4
        by_cases cb : b = 0
        · refine ⟨.and_ q q', st4, runBody_ret rfl ?_ s14.1, ⟨hq, hq'⟩, by simp only [Qn.dep]; omega, tw4, s14⟩
          subst cb
          simp [startP, D__law_question, e1, e2, e3, e4, hd1, hdp, Qn.pv, c0, c1]
        · have cb2 : b = 1 := by omega
          refine ⟨.or_ q q', st4, runBody_ret rfl ?_ s14.1, ⟨hq, hq'⟩, by simp only [Qn.dep]; omega, tw4, s14⟩
          subst cb2
          simp [startP, D__law_question, e1, e2, e3, e4, hd1, hdp, Qn.pv, c0, c1]
theorem run_textD {ns : List Int} {m L most : Nat} {st : Store} (hm : most ≤ 100) (tw : Tw ns m (L + (2 * most + 1)) st) :
    ∃ (t : Txt) (st' : Store), run T W (n + 4) 7 [.scr (IL ns), .loc m, .int most] st = .ok (.str t) st' ∧ t.all wordB = true ∧ t.length ≤ most ∧ Tw ns m L st' ∧ Same m st st' := by
  obtain ⟨r, st1, e1, r0, r1, tw1, s1⟩ := run_draw h (W := W) (n := n + 2) ((most : Int) + 1) (by omega) (by omega) (tw.less (K := L + 2 * most + 1) (by omega))
  obtain ⟨k, rfl⟩ : ∃ k : Nat, r = (k : Int) := ⟨r.toNat, by omega⟩
  have hk : k ≤ SL := le_SL (by omega)
  rw [run_def (h.at_ 7 _ rfl)]
  have lp := comp_inv (turn := compTurn (.one 3) [some (.scr (IL ns)), some (.loc m), some (.int most), none] (evF (run T W (n + 3)) (.call 4 (.cons (.var 0) (.cons (.var 1) .nil)))) none)
    (fun j s => Tw ns m (L + 2 * j) s ∧ Same m st s) (fun y => ∃ c, y = .str [c] ∧ wordB c = true) (xs := (List.range k).map fun i => .int (i : Nat)) (k := 0) (st := st1) (fun v hv j s hi => ?_) (by simpa using hk) ⟨tw1.less (by simp; omega), s1⟩
  · obtain ⟨ys, st2, e2, l2, g2, tw2, s2⟩ := lp
    obtain ⟨cs, hcs, hw⟩ : ∃ cs : List Nat, ys = cs.map (fun c => .str [c]) ∧ cs.all wordB = true := by
      clear e2 l2
      induction ys with
      | nil => exact ⟨[], rfl, rfl⟩
      | cons y ys ih =>
        obtain ⟨cs, i1, i2⟩ := ih fun z hz => g2 z (List.mem_cons_of_mem _ hz)
        obtain ⟨c, e, hc⟩ := g2 y List.mem_cons_self
        exact ⟨c :: cs, by rw [e, i1]; rfl, by simp [hc]; simpa using i2⟩
    subst hcs
    rw [List.length_map, List.length_map, List.length_range] at l2
    rw [List.length_map, List.length_range] at e2
    have hc : cs.length ≤ 100 := by omega
    refine ⟨cs, st2, runBody_ret rfl ?_ s2.1, hw, by omega, tw2.less (by omega), s2⟩
    simp [startP, D__law_text, e1, rng_len hk]
    rw [e2]
    simp [startP, join_one (by omega : cs.length ≤ 1000)]
  · obtain ⟨tw', s'⟩ := hi
    obtain ⟨c, s2, e2, hc, tw2, s3⟩ := run_word h (W := W) (n := n) (tw'.less (K := L + 2 * j + 2) (by omega))
    refine ⟨.str [c], s2, ?_, ⟨c, rfl, hc⟩, tw2, s'.trans s3⟩
    simp [startP, e2]
end
end Wf
/-! The two readings of a question agree. -/
namespace Wf
theorem infix_one (w : Nat) : ∀ l : Txt, infixB [w] l = true ↔ w ∈ l
  | [] => by simp [infixB]
  | c :: r => by
    have := infix_one w r
    simp only [infixB, Bool.or_eq_true, List.mem_cons, this]
    simp [List.isPrefixOf]
theorem mem_cut {w : Nat} {t : Txt} {a b : Nat} : w ∈ cutL t a b ↔ ∃ j, a ≤ j ∧ j < b ∧ t[j]? = some w := by
  unfold cutL
  rw [List.mem_iff_getElem?]
  constructor
  · rintro ⟨i, hi⟩
    rw [List.getElem?_take] at hi
    split at hi
    · rename_i h
      rw [List.getElem?_drop] at hi
      exact ⟨a + i, by omega, by omega, hi⟩
    · cases hi
  · rintro ⟨j, h1, h2, h3⟩
    refine ⟨j - a, ?_⟩
    rw [List.getElem?_take, if_pos (by omega), List.getElem?_drop, show a + (j - a) = j by omega]
    exact h3
theorem tc_iff {t : Txt} {k v : Nat} (hk : k < t.length) : tc t k = v ↔ t[k]? = some v := by
  rw [tc_at hk]
  simp
theorem mem_plc {t : Txt} {v k : Nat} : k ∈ plc t [v] ↔ t[k]? = some v := by
  unfold plc
  rw [List.mem_filter, List.mem_range]
  constructor
  · rintro ⟨h1, h2⟩
    simp at h2
    exact (tc_iff h1).mp h2
  · intro h
    have hk := (List.getElem?_eq_some_iff.mp h).1
    exact ⟨hk, by simpa using (tc_iff hk).mpr h⟩
theorem close_iff {t : Txt} {v w g : Nat} : closeB t v w g = true ↔ ∃ i j, t[i]? = some v ∧ t[j]? = some w ∧ i < j ∧ j ≤ i + g + 1 := by
  unfold closeB
  rw [List.any_eq_true]
  constructor
  · rintro ⟨⟨c, i⟩, hm, hc⟩
    rw [List.mem_zipIdx_iff_getElem?] at hm
    simp only [Bool.and_eq_true, decide_eq_true_eq] at hc
    obtain ⟨h1, h2⟩ := hc
    rw [infix_one, mem_cut] at h2
    obtain ⟨j, h3, h4, h5⟩ := h2
    have hj := (List.getElem?_eq_some_iff.mp h5).1
    simp only [clampI] at h3 h4
    rw [if_pos (by omega)] at h3 h4
    refine ⟨i, j, by rw [← h1]; exact hm, h5, by omega, by omega⟩
  · rintro ⟨i, j, h1, h2, h3, h4⟩
    have hj := (List.getElem?_eq_some_iff.mp h2).1
    refine ⟨(v, i), by rw [List.mem_zipIdx_iff_getElem?]; exact h1, ?_⟩
    simp only [Bool.and_eq_true, decide_eq_true_eq]
    refine ⟨trivial, ?_⟩
    rw [infix_one, mem_cut]
    refine ⟨j, ?_, ?_, h2⟩ <;> simp only [clampI] <;> rw [if_pos (by omega)] <;> omega
theorem ne_nil_any {α : Type} {l : List α} : l ≠ [] ↔ ∃ x, x ∈ l := by
  cases l with
  | nil => simp
  | cons a r => exact ⟨fun _ => ⟨a, List.mem_cons_self⟩, fun _ => by simp⟩
theorem mem_oth {nr : Bool} {ks : List Nat} {p g k : Nat} : k ∈ oth nr ks p g ↔ k ∈ ks ∧ ((p < k ∧ k ≤ p + g + 1) ∨ (nr = true ∧ k < p ∧ p ≤ k + g + 1)) := by
  unfold oth
  rw [List.mem_filter]
  simp only [Bool.or_eq_true, Bool.and_eq_true, decide_eq_true_eq]
  constructor
  · rintro ⟨h1, h2 | h2⟩
    · exact ⟨h1, .inl ⟨by omega, by omega⟩⟩
    · exact ⟨h1, .inr ⟨h2.1, by omega, by omega⟩⟩
  · rintro ⟨h1, h2 | h2⟩
    · exact ⟨h1, .inl ⟨by omega, by omega⟩⟩
    · exact ⟨h1, .inr ⟨h2.1, by omega, by omega⟩⟩
theorem any_iff {t : Txt} {nr : Bool} {v w g : Nat} : ((plc t [v]).any fun p => !decide (oth nr (plc t [w]) p g = [])) = true ↔
    ∃ i j, t[i]? = some v ∧ t[j]? = some w ∧ ((i < j ∧ j ≤ i + g + 1) ∨ (nr = true ∧ j < i ∧ i ≤ j + g + 1)) := by
  rw [List.any_eq_true]
  constructor
  · rintro ⟨p, hp, h⟩
    rw [mem_plc] at hp
    simp only [Bool.not_eq_true', decide_eq_false_iff_not] at h
    obtain ⟨k, hk⟩ := ne_nil_any.mp h
    rw [mem_oth, mem_plc] at hk
    exact ⟨p, k, hp, hk.1, hk.2⟩
  · rintro ⟨i, j, h1, h2, h3⟩
    refine ⟨i, mem_plc.mpr h1, ?_⟩
    simp only [Bool.not_eq_true', decide_eq_false_iff_not]
    exact ne_nil_any.mpr ⟨j, mem_oth.mpr ⟨mem_plc.mpr h2, h3⟩⟩
theorem infix_iff {x : Txt} (hx : x ≠ []) : ∀ t : Txt, infixB x t = true ↔ ∃ k, k < t.length ∧ x.isPrefixOf (t.drop k) = true
  | [] => by
    simp only [infixB, List.length_nil]
    constructor
    · intro h; cases x with
      | nil => exact absurd rfl hx
      | cons a r => simp at h
    · rintro ⟨k, h, _⟩; omega
  | c :: r => by
    have ih := infix_iff hx r
    simp only [infixB, Bool.or_eq_true, ih]
    constructor
    · rintro (h | ⟨k, h1, h2⟩)
      · exact ⟨0, by simp, h⟩
      · exact ⟨k + 1, by simp; omega, by simpa using h2⟩
    · rintro ⟨k, h1, h2⟩
      cases k with
      | zero => exact .inl (by simpa using h2)
      | succ k => exact .inr ⟨k, by simpa using h1, by simpa using h2⟩
theorem cut_pre {t x : Txt} {k : Nat} : cutL t (clampI t.length k) (clampI t.length (k + x.length)) = x ↔ x.isPrefixOf (t.drop k) = true := by
  unfold cutL clampI
  rw [if_pos (by omega), if_pos (by omega), List.isPrefixOf_iff_prefix]
  have e1 : t.drop (min (k : Int).toNat t.length) = t.drop k := by
    by_cases h : k ≤ t.length
    · congr 1; omega
    · rw [List.drop_eq_nil_of_le (by omega), List.drop_eq_nil_of_le (by omega)]
  rw [e1]
  have e2 : (t.drop k).take (min ((k : Int) + x.length).toNat t.length - min (k : Int).toNat t.length) = (t.drop k).take x.length := by
    by_cases h : k + x.length ≤ t.length
    · congr 1; omega
    · rw [List.take_of_length_le (by rw [List.length_drop]; omega), List.take_of_length_le (by rw [List.length_drop]; omega)]
  rw [e2]
  constructor
  · intro h; exact ⟨(t.drop k).drop x.length, by conv => lhs; lhs; rw [← h]
                                                 rw [List.take_append_drop]⟩
  · rintro ⟨s, hs⟩
    rw [← hs]
    simp
theorem count_plc (v : Nat) (t : Txt) : (plc t [v]).length = t.count v := by
  have : ∀ t : Txt, ((List.range t.length).filter fun k => decide (t[k]? = some v)).length = t.count v := by
    intro t
    induction t with
    | nil => rfl
    | cons c r ih =>
      rw [List.length_cons, List.range_succ_eq_map, List.filter_cons, List.filter_map, List.count_cons]
      have e : ((fun k => decide ((c :: r)[k]? = some v)) ∘ Nat.succ) = fun k => decide (r[k]? = some v) := by
        funext k; simp
      rw [e]
      by_cases h : c = v
      · simp [h, ih]
      · simp [h, ih]
  rw [← this t]
  unfold plc
  congr 1
  apply List.filter_congr
  intro k hk
  rw [List.mem_range] at hk
  have := tc_iff (v := v) hk
  simp [this]
theorem Qn.same (t : Txt) : ∀ q : Qn, q.ok → q.lawF t = q.find t
  | .word v, _ => by
    simp only [Qn.lawF, Qn.find]
    refine Bool.eq_iff_iff.mpr ?_
    rw [infix_one, List.mem_iff_getElem?]
    simp only [Bool.not_eq_true', decide_eq_false_iff_not]
    rw [← ne_eq, ne_nil_any]
    simp only [mem_plc]
  | .row x, h => by
    simp only [Qn.lawF, Qn.find]
    refine Bool.eq_iff_iff.mpr ?_
    have hx : x ≠ [] := by intro e; have := h.2.1; rw [e] at this; simp at this
    rw [infix_iff hx]
    simp only [Bool.not_eq_true', decide_eq_false_iff_not]
    rw [← ne_eq, ne_nil_any]
    unfold rws
    simp only [List.mem_filter, List.mem_range, decide_eq_true_eq, cut_pre]
  | .begin_ v, _ => by
    simp only [Qn.lawF, Qn.find]
    cases t with
    | nil => simp [cutL, clampI]
    | cons c r => simp [cutL, clampI, tc]
  | .end_ v, _ => by
    simp only [Qn.lawF, Qn.find]
    cases t with
    | nil => simp [cutL, clampI]
    | cons c r =>
      have e : clampI (c :: r).length (-1) = r.length := by
        unfold clampI
        rw [if_neg (by decide), List.length_cons]
        omega
      rw [e]
      unfold cutL
      rw [List.length_cons, show r.length + 1 - r.length = 1 by omega]
      have hl : r.length < (c :: r).length := by simp
      rw [List.drop_eq_getElem_cons hl]
      have := tc_at hl
      rw [List.getElem?_eq_getElem hl] at this
      simp [tc, List.getElem?_eq_getElem hl]
  | .often v k, _ => by
    simp only [Qn.lawF, Qn.find, count_plc]
  | .near v w g, _ => by
    simp only [Qn.lawF, Qn.find]
    refine Bool.eq_iff_iff.mpr ?_
    rw [any_iff, Bool.or_eq_true, close_iff, close_iff]
    constructor
    · rintro ⟨i, j, h1, h2, h3 | h3⟩
      · exact .inr ⟨i, j, h1, h2, h3.1, h3.2⟩
      · exact .inl ⟨j, i, h2, h1, h3.2.1, h3.2.2⟩
    · rintro (⟨i, j, h1, h2, h3, h4⟩ | ⟨i, j, h1, h2, h3, h4⟩)
      · exact ⟨j, i, h2, h1, .inr ⟨rfl, h3, h4⟩⟩
      · exact ⟨i, j, h1, h2, .inl ⟨h3, h4⟩⟩
  | .before v w g, _ => by
    simp only [Qn.lawF, Qn.find]
    refine Bool.eq_iff_iff.mpr ?_
    rw [any_iff, close_iff]
    constructor
    · rintro ⟨i, j, h1, h2, h3 | h3⟩
      · exact ⟨i, j, h1, h2, h3.1, h3.2⟩
      · cases h3.1
    · rintro ⟨i, j, h1, h2, h3, h4⟩
      exact ⟨i, j, h1, h2, .inl ⟨h3, h4⟩⟩
  | .not_ q, h => by simp only [Qn.lawF, Qn.find, Qn.same t q h]
  | .and_ q r, h => by simp only [Qn.lawF, Qn.find, Qn.same t q h.1, Qn.same t r h.2]
  | .or_ q r, h => by simp only [Qn.lawF, Qn.find, Qn.same t q h.1, Qn.same t r h.2]
theorem row_before (t : Txt) (v w : Nat) : infixB [v, w] t = closeB t v w 0 := by
  refine Bool.eq_iff_iff.mpr ?_
  rw [infix_iff (by simp), close_iff]
  constructor
  · rintro ⟨k, h1, h2⟩
    rw [List.isPrefixOf_iff_prefix] at h2
    obtain ⟨s, hs⟩ := h2
    refine ⟨k, k + 1, ?_, ?_, by omega, by omega⟩
    · have : (t.drop k)[0]? = some v := by rw [← hs]; rfl
      rw [List.getElem?_drop] at this
      exact this
    · have : (t.drop k)[1]? = some w := by rw [← hs]; rfl
      rw [List.getElem?_drop] at this
      exact this
  · rintro ⟨i, j, h1, h2, h3, h4⟩
    have e : j = i + 1 := by omega
    subst e
    have l1 := (List.getElem?_eq_some_iff.mp h1).1
    have l2 := (List.getElem?_eq_some_iff.mp h2).1
    refine ⟨i, l1, ?_⟩
    rw [List.isPrefixOf_iff_prefix, List.drop_eq_getElem_cons l1, List.drop_eq_getElem_cons l2]
    rw [List.getElem?_eq_getElem l1] at h1
    rw [List.getElem?_eq_getElem l2] at h2
    rw [Option.some.inj h1, Option.some.inj h2]
    exact ⟨_, rfl⟩
end Wf
/-! The law of finds, run. -/
namespace Wf
theorem com02 : Com T02 := ⟨fun i d h => by
  cases i with
  | zero => cases h
  | succ i => exact h⟩
theorem runBody_some {C : Orc} {W : Nat} {d : FDef} {args : List PV} {st st1 : Store} {v : PV} (hl : args.length = d.np) (h : ex C W d.body (startP d args) st = .ok (.ret v) st1) : ∃ st2, runBody C W d args st = .ok v st2 := by
  unfold runBody
  rw [if_pos hl, h]
  exact ⟨_, rfl⟩
theorem bools_eq (st : Store) (a b : Bool) : opP st .eq (.lst [.bl a, .bl b]) (.lst [.bl true, .bl true]) = some (.bl (a && b)) := by
  have := kd_bool.lst.eq (by decide) st (a := [a, b]) (b := [true, true]) (fun _ _ => trivial) (fun _ _ => trivial)
  refine Eq.trans this ?_
  cases a <;> cases b <;> rfl
theorem word_tx {c : Nat} (h : wordB c = true) : c < 0x110000 := by
  simp [wordB] at h
  omega
theorem tx_ok {t : Txt} (h : t.all wordB = true) : txOk t := by
  unfold txOk PySem.PyData.strOk
  simp only [List.all_toArray] 
  rw [List.all_eq_true] at h ⊢
  intro c hc
  exact decide_eq_true (word_tx (h c hc))
theorem texts_ne (st : Store) {xs ys : List Txt} (hx : ∀ t ∈ xs, t.all wordB = true) (hy : ∀ t ∈ ys, t.all wordB = true) : opP st .ne (.tup (xs.map .str)) (.tup (ys.map .str)) = some (.bl (!decide (xs = ys))) :=
  kd_str.tup.ne (by decide) st (fun t ht => tx_ok (hx t ht)) (fun t ht => tx_ok (hy t ht))
section
variable {T : Nat → Option FDef} (h : Com T) {W n : Nat}
include h
theorem run_town (ns : List Int) (hl : ns.length ≤ 63) (st : Store) : run T W (n + 1) 1 [.scr (IL ns)] st = .ok (.loc st.length) (st ++ [.lst (.int 0 :: IL ns)]) := by
  rw [run_def (h.at_ 1 _ rfl)]
  have e : ex (run T W n) W D__law_town.body (startP D__law_town [.scr (IL ns)]) st = .ok (.ret (.loc st.length)) (st ++ [.lst (.int 0 :: IL ns)]) := by
    simp [startP, D__law_town, il_len]
    rw [if_pos (le_SL (by omega))]
    rfl
  unfold runBody
  rw [if_pos (show [PV.scr (IL ns)].length = D__law_town.np from rfl), e]
  dsimp only
  unfold trunc
  rw [if_neg (by simp), if_neg (by simp [PV.under])]
end
theorem law02 (n : Nat) (ns : List Int) (hl : ns.length ≤ 63) : ∃ st, run T02 0 (n + 20) 0 [.scr (IL ns)] [] = .ok (.bl true) st := by
  have h := com02
  have e0 := run_town h (W := 0) (n := n + 18) ns hl []
  generalize hst0 : ([] : Store) ++ [.lst (.int 0 :: IL ns)] = st0 at e0
  have tw0 : Tw ns 0 314 st0 := ⟨0, ns, by rw [← hst0]; rfl, rfl, by omega, by omega⟩
  obtain ⟨q, st1, e1, hq, hd, tw1, s1⟩ := run_questionD h (W := 0) (n := n + 12) 2 272 st0 tw0
  have e1 : run T02 0 (n + 19) 6 [.scr (IL ns), .loc 0, .int 3] st0 = .ok q.pv st1 := e1
  obtain ⟨ts, st2, e2, hlts, hts, tw2, s2⟩ := comp_drawn (turn := compTurn (.one 10) [some (.scr (IL ns)), some (.loc 0), some q.pv, none, none, none, none, none, none, none, none] (evF (run T02 0 (n + 19)) (.call 7 (.cons (.var 0) (.cons (.var 1) (.cons (.cst (.int 9)) .nil))))) none) PV.str (fun t => t.all wordB = true ∧ t.length ≤ 9) (N := 12) (c := 19) (L := 44) (by omega) (fun k L' s tw => by
    obtain ⟨t, s', e, h1, h2, h3, h4⟩ := run_textD h (W := 0) (n := n + 15) (most := 9) (L := L') (by omega) tw
    have e : run T02 0 (n + 19) 7 [.scr (IL ns), .loc 0, .int 9] s = .ok (.str t) s' := e
    exact ⟨t, s', by simp [startP, e], ⟨h1, h2⟩, h3, h4⟩) (tw1.less (by omega))
  obtain ⟨one, st3, e3, hq1, hd1, tw3, s3⟩ := run_questionD h (W := 0) (n := n + 13) 1 24 st2 tw2
  have e3 : run T02 0 (n + 19) 6 [.scr (IL ns), .loc 0, .int 2] st2 = .ok one.pv st3 := e3
  obtain ⟨two, st4, e4, hq2, hd2, tw4, s4⟩ := run_questionD h (W := 0) (n := n + 13) 1 4 st3 tw3
  have e4 : run T02 0 (n + 19) 6 [.scr (IL ns), .loc 0, .int 2] st3 = .ok two.pv st4 := e4
  obtain ⟨v, st5, e5, hv, tw5, s5⟩ := run_word h (W := 0) (n := n + 16) (tw4.less (K := 2 + 2) (by omega))
  obtain ⟨w, st6, e6, hw, tw6, s6⟩ := run_word h (W := 0) (n := n + 16) (tw5.less (K := 0 + 2) (by omega))
  rw [run_def (show T02 0 = some D_law_k02 from rfl)]
  refine runBody_some (st1 := st6) rfl ?_
  have h12 : (12 : Nat) ≤ SL := le_SL (by omega)
  have htx : ∀ t ∈ ts, t.all wordB = true ∧ t.length ≤ 60 := fun t ht => ⟨(hts t ht).1, by have := (hts t ht).2; omega⟩
  have hsl : ∀ t ∈ ts, t.length ≤ SL := fun t ht => le_SL (by have := (hts t ht).2; omega)
  simp [startP, D_law_k02, e0, e1]
  rw [show (13 : Nat) = 12 + 1 from rfl, e2]
  simp
  generalize hturn : forTurn _ _ _ _ = turn
  obtain ⟨ps1, f1, a1, rfl⟩ := for_inv (turn := turn) (fun ps => ∃ a, ps = [some (.scr (IL ns)), some (.loc 0), some q.pv, some (.tup (ts.map .str)), a, none, none, none, none, none, none]) (st := st2) (xs := ts.map .str) (fun x hx ps hj => by
    obtain ⟨a, rfl⟩ := hj
    obtain ⟨t, ht, rfl⟩ := List.mem_map.mp hx
    refine ⟨_, ?_, some (.str t), rfl⟩
    rw [← hturn]
    unfold forTurn
    simp [startP, run_finds h hq hd (htx t ht).1 (htx t ht).2, run_lawF h q t (n + 19) st2 hq (hsl t ht) (by omega), Qn.same t q hq]) ⟨none, rfl⟩
  rw [List.length_map] at f1
  rw [f1]
  clear f1 hturn turn
  simp [startP, run_among h hq hd htx (by omega)]
  rw [comp_map (F := PV.str) (fun t => if q.find t = true then some (.str t) else none) (fun t ht => ?_) (le_SL (by omega)), fm_if]
  · have hfl : ∀ t ∈ ts.filter (fun t => q.find t), t.all wordB = true := fun t ht => (htx t (List.mem_filter.mp ht).1).1
    have am0 := run_among h (W := 0) (n := n + 11) hq hd (ts := []) (by simp) (by simp) st2
    have hd3 : ¬ (3 : Int) < q.dep := by omega
    simp only [List.map_nil, List.filter_nil] at am0
    have ne0 : opP st2 .ne (.tup []) (.tup []) = some (.bl false) := texts_ne st2 (xs := []) (ys := []) (by simp) (by simp)
    simp [startP, texts_ne st2 hfl hfl, run_depth h hq hd, run_lawD h q (n + 19) st2 (by omega), hd3, am0, ne0, e3, e4]
    generalize hturn : forTurn _ _ _ _ = turn
    obtain ⟨ps2, f2, a2, b2, rfl⟩ := for_inv (turn := turn) (fun ps => ∃ a b, ps = [some (.scr (IL ns)), some (.loc 0), some q.pv, some (.tup (ts.map .str)), a, some one.pv, some two.pv, b, none, none, none]) (st := st4) (xs := ts.map .str) (fun x hx ps hj => by
      obtain ⟨a, b, rfl⟩ := hj
      obtain ⟨t, ht, rfl⟩ := List.mem_map.mp hx
      refine ⟨_, ?_, some (.str t), some (.lst [.bl (one.find t), .bl (two.find t)]), rfl⟩
      rw [← hturn]
      unfold forTurn
      have f1 := run_finds h (W := 0) (n := n + 11) hq1 (by omega) (htx t ht).1 (htx t ht).2 st4
      have f2 := run_finds h (W := 0) (n := n + 11) hq2 (by omega) (htx t ht).1 (htx t ht).2 st4
      have f3 := run_finds h (W := 0) (n := n + 11) (q := .and_ one two) ⟨hq1, hq2⟩ (by simp only [Qn.dep]; omega) (htx t ht).1 (htx t ht).2 st4
      have f4 := run_finds h (W := 0) (n := n + 11) (q := .or_ one two) ⟨hq1, hq2⟩ (by simp only [Qn.dep]; omega) (htx t ht).1 (htx t ht).2 st4
      have f5 := run_finds h (W := 0) (n := n + 11) (q := .not_ one) hq1 (by simp only [Qn.dep]; omega) (htx t ht).1 (htx t ht).2 st4
      simp only [Qn.pv, Qn.find] at f3 f4 f5
      simp [startP, f1, f2, f3, f4, f5, bools_eq, in_bools2]) ⟨a1, none, rfl⟩
    rw [List.length_map] at f2
    rw [f2]
    clear f2 hturn turn
    simp [startP, e5, e6]
    generalize hturn : forTurn _ _ _ _ = turn
    obtain ⟨ps3, f3, a3, rfl⟩ := for_inv (turn := turn) (fun ps => ∃ a, ps = [some (.scr (IL ns)), some (.loc 0), some q.pv, some (.tup (ts.map .str)), a, some one.pv, some two.pv, b2, some (.str [v]), some (.str [w]), none]) (st := st6) (xs := ts.map .str) (fun x hx ps hj => by
      obtain ⟨a, rfl⟩ := hj
      obtain ⟨t, ht, rfl⟩ := List.mem_map.mp hx
      refine ⟨_, ?_, some (.str t), rfl⟩
      rw [← hturn]
      unfold forTurn
      have f1 := run_finds h (W := 0) (n := n + 11) (q := .near v w 1) ⟨hv, hw, by omega⟩ (by simp only [Qn.dep]; omega) (htx t ht).1 (htx t ht).2 st6
      have f2 := run_finds h (W := 0) (n := n + 11) (q := .or_ (.before v w 1) (.before w v 1)) ⟨⟨hv, hw, by omega⟩, hw, hv, by omega⟩ (by simp only [Qn.dep]; omega) (htx t ht).1 (htx t ht).2 st6
      have f3 := run_finds h (W := 0) (n := n + 11) (q := .row [v, w]) ⟨by simp [hv, hw], by simp, by simp⟩ (by simp only [Qn.dep]; omega) (htx t ht).1 (htx t ht).2 st6
      have f4 := run_finds h (W := 0) (n := n + 11) (q := .before v w 0) ⟨hv, hw, by omega⟩ (by simp only [Qn.dep]; omega) (htx t ht).1 (htx t ht).2 st6
      simp only [Qn.pv, Qn.find, row_before] at f1 f2 f3 f4
      rw [Bool.or_comm] at f1
      simp at f1 f2 f3 f4
      simp [startP, f1, f2, f3, f4]) ⟨a2, rfl⟩
    rw [List.length_map] at f3
    rw [f3]
    simp
  · simp [startP, run_lawF h q t (n + 19) st2 hq (hsl t ht) (by omega), Qn.same t q hq]
    split <;> rfl
theorem run02 (ns : List Int) (hl : ns.length ≤ 63) : ∃ W st, run T02 W 40 0 [.scr (ns.map .int)] [] = .ok (.bl true) st := ⟨0, law02 20 ns hl⟩
end Wf
/-! Least finds. -/
namespace Wf
/-- without the word at a place -/
def Qn.least (q : Qn) (t : Txt) : Bool := q.find t && !((List.range t.length).any fun k => q.find (t.eraseIdx k))
def lev : Nat → List Txt
  | 0 => [[]]
  | k + 1 => (lev k).flatMap fun t => [97, 98, 99, 100].map fun c => t ++ [c]
def upto (n : Nat) : List Txt := (List.range (n + 1)).flatMap lev
theorem lev_len : ∀ k, (lev k).length = 4 ^ k
  | 0 => rfl
  | k + 1 => by
    have : ∀ l : List Txt, (l.flatMap fun t => [97, 98, 99, 100].map fun c => t ++ [c]).length = 4 * l.length := by
      intro l
      induction l with
      | nil => rfl
      | cons a r ih => rw [List.flatMap_cons, List.length_append, ih]; simp; omega
    rw [lev, this, lev_len k, Nat.pow_succ]
    omega
theorem mem_lev : ∀ {k : Nat} {t : Txt}, t ∈ lev k ↔ t.length = k ∧ t.all wordB = true
  | 0, t => by
    simp only [lev, List.mem_singleton]
    constructor
    · rintro rfl; exact ⟨rfl, rfl⟩
    · rintro ⟨h, _⟩; exact List.length_eq_zero_iff.mp h
  | k + 1, t => by
    simp only [lev, List.mem_flatMap, List.mem_map, mem_lev]
    constructor
    · rintro ⟨s, ⟨h1, h2⟩, c, hc, rfl⟩
      have hw : wordB c = true := by simp at hc; rcases hc with rfl | rfl | rfl | rfl <;> rfl
      refine ⟨by simp [h1], ?_⟩
      rw [List.all_append, h2]
      simp [hw]
    · rintro ⟨h1, h2⟩
      have hne : t ≠ [] := fun e => by rw [e] at h1; cases h1
      refine ⟨t.dropLast, ⟨by rw [List.length_dropLast]; omega, ?_⟩, t.getLast hne, ?_, List.dropLast_concat_getLast hne⟩
      · rw [List.all_eq_true] at h2 ⊢
        exact fun c hc => h2 c (List.dropLast_subset t hc)
      · have := (List.all_eq_true.mp h2) _ (List.getLast_mem hne)
        simp [wordB] at this
        simp
        omega
theorem mem_upto {n : Nat} {t : Txt} : t ∈ upto n ↔ t.length ≤ n ∧ t.all wordB = true := by
  unfold upto
  simp only [List.mem_flatMap, List.mem_range, mem_lev]
  constructor
  · rintro ⟨k, h1, h2, h3⟩; exact ⟨by omega, h3⟩
  · rintro ⟨h1, h2⟩; exact ⟨t.length, by omega, rfl, h2⟩
theorem erase_cut {t : Txt} {k : Nat} (h : k < t.length) : cutL t 0 (clampI t.length k) ++ cutL t (clampI t.length (k + 1)) t.length = t.eraseIdx k := by
  unfold cutL clampI
  rw [if_pos (by omega), if_pos (by omega), List.eraseIdx_eq_take_drop_succ]
  have e1 : min (k : Int).toNat t.length = k := by omega
  have e2 : min ((k : Int) + 1).toNat t.length = k + 1 := by omega
  rw [e1, e2]
  simp only [List.drop_zero, Nat.sub_zero]
  congr 1
  rw [List.take_of_length_le (by rw [List.length_drop]; omega)]
/-! ### loops that change the store -/
theorem forL_st {turn : PV → Slots → Store → R Fl} {J : Nat → Slots → Store → Prop} : ∀ (xs pre : List PV) (ps : Slots) (st : Store), (∀ i v, (pre ++ xs)[i]? = some v → ∀ ps st, J i ps st → ∃ ps' st', turn v ps st = .ok (.next ps') st' ∧ J (i + 1) ps' st') → J pre.length ps st →
    ∃ ps' st', forL (.vals (pre ++ xs)) turn (xs.length + 1) pre.length ps st = .ok (.next ps') st' ∧ J (pre.length + xs.length) ps' st'
  | [], pre, ps, st, _, j => ⟨ps, st, by simp [forL, Src.next], j⟩
  | x :: xs, pre, ps, st, h, j => by
    have hn : ∀ st, (Src.vals (pre ++ x :: xs)).next pre.length st = some (some x) := fun st => by simp [Src.next]
    obtain ⟨ps1, st1, e1, j1⟩ := h pre.length x (by simp) ps st j
    obtain ⟨ps2, st2, e2, j2⟩ := forL_st xs (pre ++ [x]) ps1 st1 (fun i v hv => h i v (by simpa using hv)) (by simpa using j1)
    refine ⟨ps2, st2, ?_, ?_⟩
    · rw [List.length_cons]
      unfold forL
      rw [hn]
      dsimp only
      rw [e1]
      simpa using e2
    · rw [List.length_append] at j2
      rw [List.length_cons]
      have : pre.length + [x].length + xs.length = pre.length + (xs.length + 1) := by simp; omega
      rw [this] at j2
      exact j2
theorem for_st {turn : PV → Slots → Store → R Fl} (J : Nat → Slots → Store → Prop) {xs : List PV} {ps : Slots} {st : Store} (h : ∀ i v, xs[i]? = some v → ∀ ps st, J i ps st → ∃ ps' st', turn v ps st = .ok (.next ps') st' ∧ J (i + 1) ps' st') (j : J 0 ps st) :
    ∃ ps' st', forL (.vals xs) turn (xs.length + 1) 0 ps st = .ok (.next ps') st' ∧ J xs.length ps' st' := by
  obtain ⟨ps', st', e, j'⟩ := forL_st (J := J) xs [] ps st (by simpa using h) j
  exact ⟨ps', st', by simpa using e, by simpa using j'⟩
/-! ### two fors -/
theorem comp2_pure {α β : Type} {F : α → PV} {G : β → PV} {e : α → β → PV} {turn2 : PV → PV → Store → R PV} {ys : List β} {st : Store} : ∀ (xs : List α) (x : α) (acc : List PV), (∀ y ∈ ys, turn2 (F x) (G y) st = .ok (e x y) st) → acc.length + ys.length ≤ SL →
    compL2 (.vals (ys.map G)) (fun u st4 => turn2 (F x) u st4) (ys.length + 1) 0 acc st = .ok (acc ++ ys.map (e x)) st := by
  intro _ x acc h hl
  have key : ∀ (zs pre : List β) (acc : List PV), (∀ y ∈ zs, turn2 (F x) (G y) st = .ok (e x y) st) → acc.length + zs.length ≤ SL →
    compL2 (.vals ((pre ++ zs).map G)) (fun u st4 => turn2 (F x) u st4) (zs.length + 1) pre.length acc st = .ok (acc ++ zs.map (e x)) st := by
    intro zs
    induction zs with
    | nil => intro pre acc _ _; simp [compL2, Src.next]
    | cons z zs ih =>
      intro pre acc h hl
      have hn : (Src.vals ((pre ++ z :: zs).map G)).next pre.length st = some (some (G z)) := by simp [Src.next]
      rw [List.length_cons] at hl ⊢
      unfold compL2
      rw [hn]
      dsimp only
      rw [h z List.mem_cons_self]
      simp only [R.bind_ok]
      rw [if_pos (by omega)]
      have := ih (pre ++ [z]) (acc ++ [e x z]) (fun y hy => h y (List.mem_cons_of_mem _ hy)) (by rw [List.length_append]; simp; omega)
      simpa using this
  have := key ys [] acc h hl
  simpa using this
theorem comp2_all {α β : Type} {F : α → PV} {G : β → PV} (e : α → β → PV) {turn : PV → List PV → Store → R (List PV)} {ys : List β} {st : Store} {xs : List α} (h : ∀ x ∈ xs, ∀ acc : List PV, acc.length + ys.length ≤ SL → turn (F x) acc st = .ok (acc ++ ys.map (e x)) st) (hl : xs.length * ys.length ≤ SL) :
    compL1 (.vals (xs.map F)) turn (xs.length + 1) 0 [] st = .ok (.lst (xs.flatMap fun x => ys.map (e x))) st := by
  have key : ∀ (zs pre : List α) (acc : List PV), (∀ x ∈ zs, ∀ acc : List PV, acc.length + ys.length ≤ SL → turn (F x) acc st = .ok (acc ++ ys.map (e x)) st) → acc.length + zs.length * ys.length ≤ SL →
    compL1 (.vals ((pre ++ zs).map F)) turn (zs.length + 1) pre.length acc st = .ok (.lst (acc ++ zs.flatMap fun x => ys.map (e x))) st := by
    intro zs
    induction zs with
    | nil => intro pre acc _ _; simp [compL1, Src.next]
    | cons z zs ih =>
      intro pre acc h hl
      have hn : (Src.vals ((pre ++ z :: zs).map F)).next pre.length st = some (some (F z)) := by simp [Src.next]
      rw [List.length_cons] at hl ⊢
      rw [Nat.succ_mul] at hl
      unfold compL1
      rw [hn]
      dsimp only
      rw [h z List.mem_cons_self acc (by omega)]
      simp only [R.bind_ok]
      have := ih (pre ++ [z]) (acc ++ ys.map (e z)) (fun y hy => h y (List.mem_cons_of_mem _ hy)) (by rw [List.length_append, List.length_map]; omega)
      simpa using this
  have := key xs [] [] h (by simpa using hl)
  simpa using this
section
variable {T : Nat → Option FDef} (h : Com T) {W n : Nat}
include h
theorem run_size (s m : Int) (h0 : 0 ≤ s) (h1 : s ≤ m) (st : Store) : run T W (n + 2) 25 [.int s, .int m] st = .ok .non st := by
  rw [run_def (h.at_ 25 _ rfl)]
  refine runBody_next (ps := [some (.int s), some (.int m)]) rfl ?_ rfl
  simp [startP, D_check_size, run_between h, h0, h1]
theorem run_leastF {q : Qn} (hd : q.dep ≤ 3) {t : Txt} (ht : t.length ≤ 1000) (st : Store) : run T W (n + 5) 26 [q.pv, .str t] st = .ok (.bl (q.least t)) st := by
  rw [run_def (h.at_ 26 _ rfl)]
  refine runBody_ret rfl ?_ rfl
  have hs : t.length ≤ SL := le_SL ht
  simp [startP, D_is_least_find, run_find h q t (n + 4) st hs (by omega)]
  cases hf : q.find t with
  | false => simp [Qn.least, hf]
  | true =>
    simp [startP, hs, rng_len hs]
    rw [comp_range (fun _ => true) (fun k => .bl (q.find (t.eraseIdx k))) (fun k hk => ?_) hs]
    · simp [Qn.least, hf]
    · have e := erase_cut hk
      have hl : (cutL t 0 (clampI t.length k)).length + (cutL t (clampI t.length (k + 1)) t.length).length ≤ SL := by
        rw [← List.length_append, e]
        exact le_SL (Nat.le_trans (List.length_eraseIdx_le _ _) ht)
      simp [startP, hs, hl, e, run_find h q (t.eraseIdx k) (n + 4) st (le_SL (Nat.le_trans (List.length_eraseIdx_le _ _) ht)) (by omega)]
theorem run_isLeast {q : Qn} (hq : q.ok) (hd : q.dep ≤ 3) {t : Txt} (ht : t.all wordB = true) (hl : t.length ≤ 60) (st : Store) : run T W (n + 8) 27 [q.pv, .str t] st = .ok (.bl (q.least t)) st := by
  rw [run_def (h.at_ 27 _ rfl)]
  refine runBody_ret rfl ?_ rfl
  have hw := run_words h (W := W) (n := n + 6) t 0 60 st (le_SL (by omega))
  have h2 : (t.length : Int) ≤ 60 := by omega
  simp [startP, D_is_least, run_checkQ h hq hd, hw, ht, h2, run_leastF h hd (t := t) (by omega)]
def Clean (st : Store) : Prop := st.all (SObj.under st.length) = true
theorem run_leastFinds {q : Qn} (hq : q.ok) (hd : q.dep ≤ 3) {s : Nat} (hs : s ≤ 5) {st : Store} (cl : Clean st) : run T W (n + 8) 28 [q.pv, .int s] st = .ok (.tup (((upto s).filter q.least).map .str)) st := by
  rw [run_def (h.at_ 28 _ rfl)]
  have key : ∃ st1, ex (run T W (n + 7)) W D_least_finds.body (startP D_least_finds [q.pv, .int s]) st = .ok (.ret (.tup (((upto s).filter q.least).map .str))) (st ++ [st1]) := by
    have r1 : rngP (.int ((s : Int) + 1)) (st ++ [.lst []]) = .ok (.vals ((List.range (s + 1)).map fun k => .int (k : Nat))) (st ++ [.lst []]) := by
      have := rng_len (n := s + 1) (le_SL (by omega)) (st ++ [.lst []])
      simpa using this
    simp [startP, D_least_finds, run_checkQ h hq hd, run_size h s 5 (by omega) (by omega), r1]
    generalize hturn : forTurn _ _ _ _ = turn
    have hlv : ∀ i, i ≤ 6 → (lev i).length ≤ 4096 := fun i hi => by
      rw [lev_len]
      exact Nat.pow_le_pow_right (n := 4) (by omega) hi
    have hfl : ∀ i, i ≤ 6 → (((List.range i).flatMap lev).filter q.least).length ≤ 4096 * i := fun i => by
      intro hi
      refine Nat.le_trans (List.length_filter_le _ _) ?_
      have : ∀ i, i ≤ 6 → ((List.range i).flatMap lev).length ≤ 4096 * i := by
        intro i
        induction i with
        | zero => intro _; simp
        | succ i ih =>
          intro hi
          rw [List.range_succ, List.flatMap_append, List.length_append]
          have := ih (by omega)
          have := hlv i (by omega)
          simp only [List.flatMap_cons, List.flatMap_nil, List.append_nil]
          omega
      exact this i hi
    obtain ⟨ps', st', e1, x, rfl, e2⟩ := for_st (turn := turn) (fun i ps st' => ∃ x, ps = [some q.pv, some (.int s), x, some (.loc st.length), some (.lst ((lev i).map .str)), none, none] ∧ (i ≤ s + 1 → st' = st ++ [.lst ((((List.range i).flatMap lev).filter q.least).map .str)])) (xs := (List.range (s + 1)).map fun k => .int (k : Nat)) (st := st ++ [.lst []]) (ps := [some q.pv, some (.int s), none, some (.loc st.length), some (.lst [.str []]), none, none]) (fun i v hv ps st' hj => by
      obtain ⟨x, rfl, hst⟩ := hj
      have hi : i < s + 1 := by
        have := (List.getElem?_eq_some_iff.mp hv).1
        simpa using this
      have hst := hst (by omega)
      have hg : st'[st.length]? = some (.lst ((((List.range i).flatMap lev).filter q.least).map .str)) := by rw [hst]; simp
      refine ⟨_, _, ?_, some v, rfl, fun _ => rfl⟩
      rw [← hturn]
      unfold forTurn
      have hli : (lev i).length ≤ SL := by have := hlv i (by omega); exact Nat.le_trans this (by decide)
      simp [startP, isLst_loc hg]
      rw [comp_map (F := PV.str) (fun t => if q.least t = true then some (.str t) else none) (fun t ht => ?_) hli, fm_if]
      · have hsum : ((((List.range i).flatMap lev).filter q.least).map PV.str).length + (((lev i).filter q.least).map PV.str).length ≤ SL := by
          rw [List.length_map, List.length_map]
          have h1 := hfl i (by omega)
          have h2 := List.length_filter_le q.least (lev i)
          have h3 := hlv i (by omega)
          have : 4096 * i + 4096 ≤ SL := by have : i ≤ 6 := by omega
                                            have : 4096 * i ≤ 4096 * 6 := Nat.mul_le_mul_left _ this
                                            show _ ≤ 16777216
                                            omega
          omega
        simp only [R.bind_ok]
        rw [mextP_loc hg _ hsum]
        simp [startP, ]
        have hl4 : (lev i).length * ([97, 98, 99, 100] : List Nat).length ≤ SL := by
          have := hlv i (by omega)
          show _ ≤ 16777216
          simp
          omega
        rw [comp2_all (F := PV.str) (G := fun c : Nat => PV.str [c]) (ys := [97, 98, 99, 100]) (fun t c => PV.str (t ++ [c])) (fun t ht acc hacc => ?_) hl4]
        · simp only [R.bind_ok]
          have e3 : ((lev i).flatMap fun t => ([97, 98, 99, 100] : List Nat).map fun c => PV.str (t ++ [c])) = (lev (i + 1)).map PV.str := by
            simp [lev, List.map_flatMap]
          rw [e3]
          have e4 : (st'.set st.length (SObj.lst ((((List.range i).flatMap lev).filter q.least).map PV.str ++ ((lev i).filter q.least).map PV.str))) = st ++ [SObj.lst ((((List.range (i + 1)).flatMap lev).filter q.least).map PV.str)] := by
            rw [hst, List.range_succ, List.flatMap_append, List.filter_append, List.map_append]
            simp
          rw [e4]
        · have ht6 : t.length = i := (mem_lev.mp ht).1
          have ht7 : t.length + 1 ≤ SL := le_SL (by omega)
          simp only [List.length_cons, List.length_nil] at hacc
          have a0 : acc.length < SL := by omega
          have a1 : acc.length + 1 < SL := by omega
          have a2 : acc.length + 1 + 1 < SL := by omega
          have a3 : acc.length + 1 + 1 + 1 < SL := by omega
          unfold comp2Turn
          simp [startP, compL2, Src.next, ht7, a0, a1, a2, a3]
      · have ht6 : t.length = i := (mem_lev.mp ht).1
        simp [startP, run_leastF h hd (t := t) (by omega)]
        split <;> rfl) ⟨none, by simp [lev], fun _ => by simp⟩
    simp only [List.length_map, List.length_range] at e1 e2
    have e2 := e2 (Nat.le_refl _)
    rw [e1]
    have hg : st'[st.length]? = some (.lst ((((List.range (s + 1)).flatMap lev).filter q.least).map .str)) := by rw [e2]; simp
    have hb : b1P st' .tuple (.loc st.length) = some (.tup ((((List.range (s + 1)).flatMap lev).filter q.least).map .str)) := by
      show (listOf st' (.loc st.length)).map PV.tup = _
      have : listOf st' (.loc st.length) = some ((((List.range (s + 1)).flatMap lev).filter q.least).map .str) := by
        unfold listOf
        dsimp only
        rw [hg]
      rw [this]
      rfl
    refine ⟨.lst ((((List.range (s + 1)).flatMap lev).filter q.least).map .str), ?_⟩
    rw [← e2]
    simp [startP, hb, upto]
  obtain ⟨st1, e⟩ := key
  unfold runBody
  rw [if_pos (show [q.pv, PV.int s].length = D_least_finds.np from rfl), e]
  dsimp only
  unfold trunc
  have hu : (PV.tup (((upto s).filter q.least).map PV.str)).under st.length = true := by
    have : ∀ l : List Txt, PV.unders st.length (l.map PV.str) = true := by
      intro l
      induction l with
      | nil => rfl
      | cons a r ih => simp [PV.unders, PV.under, ih]
    simp only [PV.under, this]
  rw [if_neg (by simp), if_pos]
  · simp
  · rw [hu]
    simp
    have := cl
    unfold Clean at this
    simpa using this
end
end Wf
/-! Least finds: the plain laws. -/
namespace Wf
def L (q : Qn) (n : Nat) : List Txt := (upto n).filter q.least
theorem mem_L {q : Qn} {n : Nat} {t : Txt} : t ∈ L q n ↔ (t.length ≤ n ∧ t.all wordB = true) ∧ q.least t = true := by
  unfold L
  rw [List.mem_filter, mem_upto]
theorem least_iff {q : Qn} {t : Txt} : q.least t = true ↔ q.find t = true ∧ ∀ k, k < t.length → q.find (t.eraseIdx k) = false := by
  unfold Qn.least
  simp only [Bool.and_eq_true, Bool.not_eq_true', List.any_eq_false, List.mem_range, Bool.not_eq_true]
theorem least_or {p q : Qn} {t : Txt} (h : (Qn.or_ p q).least t = true) : p.least t = true ∨ q.least t = true := by
  rw [least_iff] at h
  obtain ⟨h1, h2⟩ := h
  simp only [Qn.find, Bool.or_eq_true, Bool.or_eq_false_iff] at h1 h2
  rcases h1 with h1 | h1
  · exact .inl (least_iff.mpr ⟨h1, fun k hk => (h2 k hk).1⟩)
  · exact .inr (least_iff.mpr ⟨h1, fun k hk => (h2 k hk).2⟩)
theorem least_notnot (q : Qn) (t : Txt) : (Qn.not_ (.not_ q)).least t = q.least t := by
  unfold Qn.least
  simp [Qn.find]
theorem word_cases {c : Nat} (h : wordB c = true) : c = 97 ∨ c = 98 ∨ c = 99 ∨ c = 100 := by
  simp [wordB] at h
  omega
def abcd : List Nat := [97, 98, 99, 100]
theorem word_mem {c : Nat} (h : wordB c = true) : c ∈ abcd := by
  rcases word_cases h with rfl | rfl | rfl | rfl <;> decide
theorem d_row : ∀ v ∈ abcd, ∀ w ∈ abcd, L (.row [v, w]) 4 = [[v, w]] := by decide +kernel
theorem d_often : ∀ v ∈ abcd, L (.often v 3) 4 = [[v, v, v]] := by decide +kernel
theorem d_before : ∀ v ∈ abcd, ∀ w ∈ abcd, L (.before v w 2) 4 = [[v, w]] := by decide +kernel
theorem d_begin : ∀ v ∈ abcd, L (.begin_ v) 4 = [[v]] := by decide +kernel
theorem d_near : ∀ v ∈ abcd, ∀ w ∈ abcd, L (.near v w 1) 4 = sortU [[v, w], [w, v]] := by decide +kernel
theorem d_word : ∀ w ∈ abcd, L (.word w) 3 = [[w]] := by decide +kernel
theorem n_row2 : ∀ v ∈ abcd, ∀ w ∈ abcd, L (.not_ (.row [v, w])) 3 = [[]] := by decide +kernel
theorem n_row3 : ∀ v ∈ abcd, ∀ w ∈ abcd, ∀ x ∈ abcd, L (.not_ (.row [v, w, x])) 3 = [[]] := by decide +kernel
theorem n_near : ∀ v ∈ abcd, ∀ w ∈ abcd, ∀ g ∈ List.range 3, L (.not_ (.near v w g)) 3 = [[]] := by decide +kernel
theorem n_before : ∀ v ∈ abcd, ∀ w ∈ abcd, ∀ g ∈ List.range 3, L (.not_ (.before v w g)) 3 = [[]] := by decide +kernel
theorem n_often : ∀ v ∈ abcd, ∀ k ∈ [2, 3], L (.not_ (.often v k)) 3 = [[]] := by decide +kernel
theorem n_word : ∀ v ∈ abcd, L (.not_ (.word v)) 3 = [[]] := by decide +kernel
theorem n_begin : ∀ v ∈ abcd, L (.not_ (.begin_ v)) 3 = [[]] := by decide +kernel
theorem n_end : ∀ v ∈ abcd, L (.not_ (.end_ v)) 3 = [[]] := by decide +kernel
theorem not_least {q : Qn} (hq : q.ok) (hd : q.dep = 1) : L (.not_ q) 3 = [[]] := by
  cases q with
  | word v => exact n_word v (word_mem hq)
  | begin_ v => exact n_begin v (word_mem hq)
  | end_ v => exact n_end v (word_mem hq)
  | row x =>
    obtain ⟨h1, h2, h3⟩ := hq
    rw [List.all_eq_true] at h1
    match x, h2, h3, h1 with
    | [v, w], _, _, h1 => exact n_row2 v (word_mem (h1 v (by simp))) w (word_mem (h1 w (by simp)))
    | [v, w, x], _, _, h1 => exact n_row3 v (word_mem (h1 v (by simp))) w (word_mem (h1 w (by simp))) x (word_mem (h1 x (by simp)))
    | [], h2, _, _ => simp at h2
    | [_], h2, _, _ => simp at h2
    | _ :: _ :: _ :: _ :: _, _, h3, _ => simp at h3
  | near v w g => exact n_near v (word_mem hq.1) w (word_mem hq.2.1) g (List.mem_range.mpr (by have := hq.2.2; omega))
  | before v w g => exact n_before v (word_mem hq.1) w (word_mem hq.2.1) g (List.mem_range.mpr (by have := hq.2.2; omega))
  | often v k =>
    obtain ⟨h1, h2, h3⟩ := hq
    exact n_often v (word_mem h1) k (by simp; omega)
  | not_ q => have := q.dep_pos; simp [Qn.dep] at hd; omega
  | and_ q r => have := q.dep_pos; simp [Qn.dep] at hd; omega
  | or_ q r => have := q.dep_pos; simp [Qn.dep] at hd; omega
theorem find_nil {q : Qn} (hq : q.ok) (hd : q.dep = 1) : q.find [] = false := by
  cases q with
  | row x =>
    obtain ⟨h1, h2, h3⟩ := hq
    cases x with
    | nil => simp at h2
    | cons a r => rfl
  | often v k =>
    have := hq.2.1
    simp [Qn.find]
    omega
  | not_ q => have := q.dep_pos; simp [Qn.dep] at hd; omega
  | and_ q r => have := q.dep_pos; simp [Qn.dep] at hd; omega
  | or_ q r => have := q.dep_pos; simp [Qn.dep] at hd; omega
  | _ => simp [Qn.find, infixB, closeB, cutL]
theorem L_one (q : Qn) : L q 1 = (L q 4).filter fun t => decide (t.length < 2) := by
  unfold L
  rw [List.filter_filter]
  have e : upto 1 = (upto 4).filter fun t => decide (t.length < 2) := by decide +kernel
  rw [e, List.filter_filter]
  congr 1
  funext t
  rw [Bool.and_comm]
end Wf
/-! The law of least finds in parts, run. -/
namespace Wf
theorem com31 : Com T31 := ⟨fun i d h => by
  cases i with
  | zero => cases h
  | succ i => exact h⟩
theorem unders_ints (n : Nat) : ∀ is : List Int, PV.unders n (IL is) = true
  | [] => rfl
  | i :: is => by
    have := unders_ints n is
    unfold IL at this ⊢
    simp [PV.unders, PV.under, this]
theorem clean_tw {ns : List Int} {K : Nat} {st : Store} (h : Tw ns 0 K st) (hl : st.length = 1) : Clean st := by
  obtain ⟨c, cells, h1, _⟩ := h
  match st, hl, h1 with
  | [o], _, h1 =>
    simp at h1
    subst h1
    have := unders_ints 1 cells
    simp [Clean, SObj.under, PV.unders, PV.under, this]
theorem in_texts (st : Store) (t : Txt) (xs : List Txt) : opP st .in_ (.str t) (.tup (xs.map .str)) = some (.bl (decide (t ∈ xs))) := by
  rw [op_in_eq, inP_strs st t (xs.map .str) xs rfl]
  simp
  rw [Bool.eq_iff_iff]
  simp
theorem nin_texts (st : Store) (t : Txt) (xs : List Txt) : opP st .nin (.str t) (.tup (xs.map .str)) = some (.bl (!decide (t ∈ xs))) := by
  rw [op_nin_eq, inP_strs st t (xs.map .str) xs rfl]
  simp
  rw [Bool.eq_iff_iff]
  simp
@[simp] theorem isn_true (st : Store) (b : Bool) : opP st .isn (.bl b) (.bl true) = some (.bl (!b)) := by cases b <;> rfl
theorem L_ok {q : Qn} {n : Nat} : ∀ t ∈ L q n, t.all wordB = true := fun t h => (mem_L.mp h).1.2
theorem L_eq (q : Qn) (n : Nat) : (upto n).filter q.least = L q n := rfl
theorem srt_small : ∀ v ∈ abcd, ∀ w ∈ abcd, (sortU [[v, w], [w, v]]).length < 64 := by decide +kernel
theorem law31 (n : Nat) (ns : List Int) (hl : ns.length ≤ 63) : ∃ st, run T31 0 (n + 20) 0 [.scr (IL ns)] [] = .ok (.bl true) st := by
  have h := com31
  have e0 := run_town h (W := 0) (n := n + 18) ns hl []
  generalize hst0 : ([] : Store) ++ [.lst (.int 0 :: IL ns)] = st0 at e0
  have tw0 : Tw ns 0 20 st0 := ⟨0, ns, by rw [← hst0]; rfl, rfl, by omega, by omega⟩
  have l0 : st0.length = 1 := by rw [← hst0]; rfl
  obtain ⟨one, st1, e1, hq1, hd1, tw1, s1⟩ := run_simpleD h (W := 0) (n := n + 15) (tw0.less (K := 12 + 8) (by omega))
  obtain ⟨two, st2, e2, hq2, hd2, tw2, s2⟩ := run_simpleD h (W := 0) (n := n + 15) (tw1.less (K := 4 + 8) (by omega))
  have l2 : st2.length = 1 := by rw [s2.1, s1.1, l0]
  have c2 := clean_tw tw2 l2
  obtain ⟨v, st5, e5, hv, tw5, s5⟩ := run_word h (W := 0) (n := n + 16) (tw2.less (K := 2 + 2) (by omega))
  obtain ⟨w, st6, e6, hw, tw6, s6⟩ := run_word h (W := 0) (n := n + 16) (tw5.less (K := 0 + 2) (by omega))
  have l6 : st6.length = 1 := by rw [s6.1, s5.1, l2]
  have c6 := clean_tw tw6 l6
  rw [run_def (show T31 0 = some D_law_k31 from rfl)]
  refine runBody_some (st1 := st6) rfl ?_
  have least : ∀ (q : Qn) (s : Nat) (st : Store), q.ok → q.dep ≤ 3 → s ≤ 5 → Clean st → run T31 0 (n + 19) 28 [q.pv, .int s] st = .ok (.tup ((L q s).map .str)) st := fun q s st hq hd hs cl => run_leastFinds h (W := 0) (n := n + 11) hq hd hs cl
  have hdo : (Qn.or_ one two).dep ≤ 3 := by simp only [Qn.dep]; omega
  have hda : (Qn.and_ one two).dep ≤ 3 := by simp only [Qn.dep]; omega
  have f1 := least (.or_ one two) 4 st2 ⟨hq1, hq2⟩ hdo (by omega) c2
  have f2 := least (.and_ one two) 4 st2 ⟨hq1, hq2⟩ hda (by omega) c2
  have f3 := least one 4 st2 hq1 (by omega) (by omega) c2
  have f4 := least two 4 st2 hq2 (by omega) (by omega) c2
  simp only [Qn.pv] at f1 f2
  simp at f1 f2 f3 f4
  simp [startP, D_law_k31, e0, e1, e2, f1, f2, f3, f4, asg_two]
  have hlL : ∀ q n, n ≤ 4 → (L q n).length ≤ SL := fun q n hn => by
    unfold L
    refine Nat.le_trans (List.length_filter_le _ _) ?_
    have : ∀ n, n ≤ 4 → (upto n).length ≤ 1000 := by decide +kernel
    exact le_SL (this n hn)
  rw [comp_map (F := PV.str) (fun t => none) (fun t ht => ?_) (hlL _ _ (by omega)), show ((L (one.or_ two) 4).filterMap fun _ => (none : Option PV)) = [] from List.filterMap_eq_nil_iff.mpr (fun _ _ => rfl)]
  · have nil_ne : ∀ st : Store, opP st .ne (.lst []) (.lst []) = some (.bl false) := fun st => ints_nil st []
    simp [nil_ne]
    generalize hturn : forTurn _ _ _ _ = turn
    obtain ⟨ps1, g1, a1, rfl⟩ := for_inv (turn := turn) (fun ps => ∃ a, ps = [some (.scr (IL ns)), some (.loc 0), a, some one.pv, some two.pv, some (.tup ((L (one.or_ two) 4).map .str)), some (.tup ((L (one.and_ two) 4).map .str)), some (.tup ((L one 4).map .str)), some (.tup ((L two 4).map .str)), none, none]) (st := st2) (xs := (L (one.and_ two) 4).map .str) (fun x hx ps hj => by
      obtain ⟨a, rfl⟩ := hj
      obtain ⟨t, ht, rfl⟩ := List.mem_map.mp hx
      refine ⟨_, ?_, some (.str t), rfl⟩
      rw [← hturn]
      unfold forTurn
      have m := mem_L.mp ht
      have k1 := run_finds h (W := 0) (n := n + 11) hq1 (by omega) m.1.2 (by omega) st2
      have k2 := run_finds h (W := 0) (n := n + 11) hq2 (by omega) m.1.2 (by omega) st2
      have k3 := run_isLeast h (W := 0) (n := n + 11) (q := .and_ one two) ⟨hq1, hq2⟩ hda m.1.2 (by omega) st2
      simp only [Qn.pv] at k3
      have fa := (least_iff.mp m.2).1
      simp only [Qn.find, Bool.and_eq_true] at fa
      simp [startP, k1, k2, k3, fa.1, fa.2, m.2]) ⟨none, rfl⟩
    rw [List.length_map] at g1
    rw [g1]
    clear g1 hturn turn
    simp
    generalize hturn : forTurn _ _ _ _ = turn
    obtain ⟨ps2, g2, a2, rfl⟩ := for_inv (turn := turn) (fun ps => ∃ a, ps = [some (.scr (IL ns)), some (.loc 0), a, some one.pv, some two.pv, some (.tup ((L (one.or_ two) 4).map .str)), some (.tup ((L (one.and_ two) 4).map .str)), some (.tup ((L one 4).map .str)), some (.tup ((L two 4).map .str)), none, none]) (st := st2) (xs := (L one 4).map .str) (fun x hx ps hj => by
      obtain ⟨a, rfl⟩ := hj
      obtain ⟨t, ht, rfl⟩ := List.mem_map.mp hx
      refine ⟨_, ?_, some (.str t), rfl⟩
      rw [← hturn]
      unfold forTurn
      have m := mem_L.mp ht
      have k3 := run_isLeast h (W := 0) (n := n + 11) (q := .or_ one two) ⟨hq1, hq2⟩ hdo m.1.2 (by omega) st2
      simp only [Qn.pv] at k3
      have e : decide (t ∈ L (one.or_ two) 4) = (Qn.or_ one two).least t := by
        rw [Bool.eq_iff_iff, decide_eq_true_eq, mem_L]
        exact ⟨fun z => z.2, fun z => ⟨m.1, z⟩⟩
      simp [startP, k3, in_texts, e]) ⟨a1, rfl⟩
    rw [List.length_map] at g2
    rw [g2]
    clear g2 hturn turn
    have hv' := word_mem hv
    have hw' := word_mem hw
    have r1 := least (.row [v, w]) 4 st6 ⟨by simp [hv, hw], by simp, by simp⟩ (by simp only [Qn.dep]; omega) (by omega) c6
    have r2 := least (.often v 3) 4 st6 ⟨hv, by omega, by omega⟩ (by simp only [Qn.dep]; omega) (by omega) c6
    have r3 := least (.before v w 2) 4 st6 ⟨hv, hw, by omega⟩ (by simp only [Qn.dep]; omega) (by omega) c6
    have r4 := least (.begin_ v) 4 st6 hv (by simp only [Qn.dep]; omega) (by omega) c6
    have r5 := least (.near v w 1) 4 st6 ⟨hv, hw, by omega⟩ (by simp only [Qn.dep]; omega) (by omega) c6
    have r6 := least (.word w) 3 st6 hw (by simp only [Qn.dep]; omega) (by omega) c6
    have r7 := least (.not_ one) 3 st6 hq1 (by simp only [Qn.dep]; omega) (by omega) c6
    have r8 := least one 1 st6 hq1 (by omega) (by omega) c6
    have r9 := least (.not_ (.not_ one)) 4 st6 hq1 (by simp only [Qn.dep]; omega) (by omega) c6
    rw [d_row v hv' w hw'] at r1
    rw [d_often v hv'] at r2
    rw [d_before v hv' w hw'] at r3
    rw [d_begin v hv'] at r4
    rw [d_near v hv' w hw'] at r5
    rw [d_word w hw'] at r6
    rw [not_least hq1 hd1] at r7
    have e9 : L (.not_ (.not_ one)) 4 = L one 4 := by
      unfold L
      congr 1
      funext t
      exact least_notnot one t
    rw [e9] at r9
    simp only [Qn.pv] at r1 r2 r3 r4 r5 r6 r7 r9
    simp at r1 r2 r3 r4 r5 r6 r7 r8 r9
    have ff := run_finds h (W := 0) (n := n + 11) hq1 (by omega) (t := []) rfl (by simp) st6
    rw [find_nil hq1 hd1] at ff
    have nt : ∀ t : Txt, t.all wordB = true → opP st6 .ne (.tup [.str t]) (.tup [.str t]) = some (.bl false) := fun t ht => by
      have := texts_ne st6 (xs := [t]) (ys := [t]) (by simpa using ht) (by simpa using ht)
      simpa using this
    have n1 := nt [v, w] (by simp [hv, hw])
    have n2 := nt [v, v, v] (by simp [hv])
    have n3 := nt [v] (by simp [hv])
    have n4 := nt [w] (by simp [hw])
    have n5 := nt [] rfl
    have hsu : ∀ t ∈ sortU [[v, w], [w, v]], t.all wordB = true := fun t ht => by
      rw [mem_sortU] at ht
      simp at ht
      rcases ht with rfl | rfl <;> simp [hv, hw]
    have n6 := texts_ne st6 hsu hsu
    have sr : srtP st6 (.lst [.str [v, w], .str [w, v]]) = some (.lst ((sortU [[v, w], [w, v]]).map .str)) := by
      show (if (sortU [[v, w], [w, v]]).length < 64 then some (PV.lst ((sortU [[v, w], [w, v]]).map .str)) else none) = _
      rw [if_pos (srt_small v hv' w hw')]
    have mu : opP st6 .mul (.str [v]) (.int 3) = some (.str [v, v, v]) := by
      show (if (0 : Int) ≤ 3 ∧ (3 : Int) ≤ 1000 ∧ [v].length ≤ 1000 then some (PV.str (List.replicate (3 : Int).toNat [v]).flatten) else none) = _
      rw [if_pos ⟨by omega, by omega, by simp⟩]
      rfl
    simp [startP, e5, e6, r1, r2, r3, r4, r5, r6, r7, r8, r9, ff, n1, n2, n3, n4, n5, n6, sr, mu]
    rw [comp_map (F := PV.str) (fun t => if decide (t.length < 2) = true then some (.str t) else none) (fun t ht => ?_) (hlL _ _ (by omega)), fm_if]
    · rw [← L_one one]
      have n7 := texts_ne st6 (L_ok (q := one) (n := 1)) (L_ok (q := one) (n := 1))
      have n8 := kd_str.tup.eq (by decide) st6 (a := L one 4) (b := L one 4) (fun t ht => tx_ok (L_ok t ht)) (fun t ht => tx_ok (L_ok t ht))
      simp [startP, n7, n8, r9]
    · have m := mem_L.mp ht
      have hsl : t.length ≤ SL := le_SL (by omega)
      simp [startP, hsl]
      by_cases h2 : t.length < 2 <;> simp [h2] <;> omega
  · have m := mem_L.mp ht
    simp [startP, nin_texts]
    rcases least_or m.2 with z | z
    · have : t ∈ L one 4 := mem_L.mpr ⟨m.1, z⟩
      simp [this]
    · have : t ∈ L two 4 := mem_L.mpr ⟨m.1, z⟩
      simp [this]
theorem run31 (ns : List Int) (hl : ns.length ≤ 63) : ∃ W st, run T31 W 40 0 [.scr (ns.map .int)] [] = .ok (.bl true) st := ⟨0, law31 20 ns hl⟩
end Wf
namespace J31
open PySem PySem.Spec L2 Wf
abbrev P : Program := PySem.Challenge.pw_wordfinds_k31_least_in_parts
def top (i : Nat) : Stmt := P.main.body.getD i (.Pass ⟨0, 0, 0, 0⟩)
def dd (x : Str) (i : Nat) : He.DefD := ⟨(x, none), x, x, defArgs (top i), defBody (top i), defScope (top i), [], []⟩
def fns : List Str := ["is_between", "are_words", "is_simple", "is_at_most", "is_question", "check_question", "check_text", "are_close", "does_find", "finds", "check_size", "is_least_find", "is_least", "least_finds", "_law_town", "_law_draw", "_law_pick", "_law_word", "_law_simple", "law"]
def excs : List Str := ["FindError", "InvalidQuestion", "InvalidText", "InvalidNumber"]
def gs : List Str := ["WORDS", "DEEP"]
def fn : List He.DefD := [dd "is_between" 8, dd "are_words" 9, dd "is_simple" 10, dd "is_at_most" 11, dd "is_question" 12, dd "check_question" 13, dd "check_text" 14, dd "are_close" 15, dd "does_find" 16, dd "finds" 17, dd "check_size" 19, dd "is_least_find" 21, dd "is_least" 22, dd "least_finds" 23, dd "_law_town" 25, dd "_law_draw" 26, dd "_law_pick" 27, dd "_law_word" 28, dd "_law_simple" 29, dd "law" 30]
theorem ok_is_between : DefOk fn fns excs gs T31 "is_between" ["value", "low", "high"] := ⟨12, dd "is_between" 8, ["value", "low", "high"], [], D_is_between.body, by decide +kernel, List.mem_of_getElem? (i := 0) rfl, rfl, rfl, rfl, by kernel_rfl, ⟨rfl, rfl, rfl, by decide +kernel, rfl, by decide +kernel, by decide +kernel⟩, fun _ _ _ _ _ _ us hl => match us, hl with | [_, _, _], _ => rfl⟩
theorem ok_are_words : DefOk fn fns excs gs T31 "are_words" ["value", "low", "high"] := ⟨13, dd "are_words" 9, ["value", "low", "high", "word"], [], D_are_words.body, by decide +kernel, List.mem_of_getElem? (i := 1) rfl, rfl, rfl, rfl, by kernel_rfl, ⟨rfl, rfl, rfl, by decide +kernel, rfl, by decide +kernel, by decide +kernel⟩, fun _ _ _ _ _ _ us hl => match us, hl with | [_, _, _], _ => rfl⟩
theorem ok_is_simple : DefOk fn fns excs gs T31 "is_simple" ["value"] := ⟨14, dd "is_simple" 10, ["value", "name", "parts", "part"], [], D_is_simple.body, by decide +kernel, List.mem_of_getElem? (i := 2) rfl, rfl, rfl, rfl, by kernel_rfl, ⟨rfl, rfl, rfl, by decide +kernel, rfl, by decide +kernel, by decide +kernel⟩, fun _ _ _ _ _ _ us hl => match us, hl with | [_], _ => rfl⟩
theorem ok_is_at_most : DefOk fn fns excs gs T31 "is_at_most" ["value", "deep"] := ⟨15, dd "is_at_most" 11, ["value", "deep", "part"], [], D_is_at_most.body, by decide +kernel, List.mem_of_getElem? (i := 3) rfl, rfl, rfl, rfl, by kernel_rfl, ⟨rfl, rfl, rfl, by decide +kernel, rfl, by decide +kernel, by decide +kernel⟩, fun _ _ _ _ _ _ us hl => match us, hl with | [_, _], _ => rfl⟩
theorem ok_is_question : DefOk fn fns excs gs T31 "is_question" ["value"] := ⟨16, dd "is_question" 12, ["value"], [], D_is_question.body, by decide +kernel, List.mem_of_getElem? (i := 4) rfl, rfl, rfl, rfl, by kernel_rfl, ⟨rfl, rfl, rfl, by decide +kernel, rfl, by decide +kernel, by decide +kernel⟩, fun _ _ _ _ _ _ us hl => match us, hl with | [_], _ => rfl⟩
theorem ok_check_question : DefOk fn fns excs gs T31 "check_question" ["value"] := ⟨17, dd "check_question" 13, ["value"], [], D_check_question.body, by decide +kernel, List.mem_of_getElem? (i := 5) rfl, rfl, rfl, rfl, by kernel_rfl, ⟨rfl, rfl, rfl, by decide +kernel, rfl, by decide +kernel, by decide +kernel⟩, fun _ _ _ _ _ _ us hl => match us, hl with | [_], _ => rfl⟩
theorem ok_check_text : DefOk fn fns excs gs T31 "check_text" ["value"] := ⟨18, dd "check_text" 14, ["value"], [], D_check_text.body, by decide +kernel, List.mem_of_getElem? (i := 6) rfl, rfl, rfl, rfl, by kernel_rfl, ⟨rfl, rfl, rfl, by decide +kernel, rfl, by decide +kernel, by decide +kernel⟩, fun _ _ _ _ _ _ us hl => match us, hl with | [_], _ => rfl⟩
theorem ok_are_close : DefOk fn fns excs gs T31 "are_close" ["text", "v", "w", "gap"] := ⟨21, dd "are_close" 15, ["text", "v", "w", "gap", "place", "word"], [], D_are_close.body, by decide +kernel, List.mem_of_getElem? (i := 7) rfl, rfl, rfl, rfl, by kernel_rfl, ⟨rfl, rfl, rfl, by decide +kernel, rfl, by decide +kernel, by decide +kernel⟩, fun _ _ _ _ _ _ us hl => match us, hl with | [_, _, _, _], _ => rfl⟩
theorem ok_does_find : DefOk fn fns excs gs T31 "does_find" ["question", "text"] := ⟨22, dd "does_find" 16, ["question", "text", "name", "v"], [], D_does_find.body, by decide +kernel, List.mem_of_getElem? (i := 8) rfl, rfl, rfl, rfl, by kernel_rfl, ⟨rfl, rfl, rfl, by decide +kernel, rfl, by decide +kernel, by decide +kernel⟩, fun _ _ _ _ _ _ us hl => match us, hl with | [_, _], _ => rfl⟩
theorem ok_finds : DefOk fn fns excs gs T31 "finds" ["question", "text"] := ⟨23, dd "finds" 17, ["question", "text"], [], D_finds.body, by decide +kernel, List.mem_of_getElem? (i := 9) rfl, rfl, rfl, rfl, by kernel_rfl, ⟨rfl, rfl, rfl, by decide +kernel, rfl, by decide +kernel, by decide +kernel⟩, fun _ _ _ _ _ _ us hl => match us, hl with | [_, _], _ => rfl⟩
theorem ok_check_size : DefOk fn fns excs gs T31 "check_size" ["size", "most"] := ⟨25, dd "check_size" 19, ["size", "most"], [], D_check_size.body, by decide +kernel, List.mem_of_getElem? (i := 10) rfl, rfl, rfl, rfl, by kernel_rfl, ⟨rfl, rfl, rfl, by decide +kernel, rfl, by decide +kernel, by decide +kernel⟩, fun _ _ _ _ _ _ us hl => match us, hl with | [_, _], _ => rfl⟩
theorem ok_is_least_find : DefOk fn fns excs gs T31 "is_least_find" ["question", "text"] := ⟨26, dd "is_least_find" 21, ["question", "text", "place"], [], D_is_least_find.body, by decide +kernel, List.mem_of_getElem? (i := 11) rfl, rfl, rfl, rfl, by kernel_rfl, ⟨rfl, rfl, rfl, by decide +kernel, rfl, by decide +kernel, by decide +kernel⟩, fun _ _ _ _ _ _ us hl => match us, hl with | [_, _], _ => rfl⟩
theorem ok_is_least : DefOk fn fns excs gs T31 "is_least" ["question", "value"] := ⟨27, dd "is_least" 22, ["question", "value"], [], D_is_least.body, by decide +kernel, List.mem_of_getElem? (i := 12) rfl, rfl, rfl, rfl, by kernel_rfl, ⟨rfl, rfl, rfl, by decide +kernel, rfl, by decide +kernel, by decide +kernel⟩, fun _ _ _ _ _ _ us hl => match us, hl with | [_, _], _ => rfl⟩
theorem ok_least_finds : DefOk fn fns excs gs T31 "least_finds" ["question", "size"] := ⟨28, dd "least_finds" 23, ["question", "size", "many", "found", "level", "text", "word"], ["found"], D_least_finds.body, by decide +kernel, List.mem_of_getElem? (i := 13) rfl, rfl, rfl, rfl, by kernel_rfl, ⟨rfl, rfl, rfl, by decide +kernel, rfl, by decide +kernel, by decide +kernel⟩, fun _ _ _ _ _ _ us hl => match us, hl with | [_, _], _ => rfl⟩
theorem ok__law_town : DefOk fn fns excs gs T31 "_law_town" ["script"] := ⟨1, dd "_law_town" 25, ["script"], ["return"], D__law_town.body, by decide +kernel, List.mem_of_getElem? (i := 14) rfl, rfl, rfl, rfl, by kernel_rfl, ⟨rfl, rfl, rfl, by decide +kernel, rfl, by decide +kernel, by decide +kernel⟩, fun _ _ _ _ _ _ us hl => match us, hl with | [_], _ => rfl⟩
theorem ok__law_draw : DefOk fn fns excs gs T31 "_law_draw" ["script", "town", "limit"] := ⟨2, dd "_law_draw" 26, ["script", "town", "limit", "at", "left", "number"], [], D__law_draw.body, by decide +kernel, List.mem_of_getElem? (i := 15) rfl, rfl, rfl, rfl, by kernel_rfl, ⟨rfl, rfl, rfl, by decide +kernel, rfl, by decide +kernel, by decide +kernel⟩, fun _ _ _ _ _ _ us hl => match us, hl with | [_, _, _], _ => rfl⟩
theorem ok__law_pick : DefOk fn fns excs gs T31 "_law_pick" ["script", "town", "choices"] := ⟨3, dd "_law_pick" 27, ["script", "town", "choices"], [], D__law_pick.body, by decide +kernel, List.mem_of_getElem? (i := 16) rfl, rfl, rfl, rfl, by kernel_rfl, ⟨rfl, rfl, rfl, by decide +kernel, rfl, by decide +kernel, by decide +kernel⟩, fun _ _ _ _ _ _ us hl => match us, hl with | [_, _, _], _ => rfl⟩
theorem ok__law_word : DefOk fn fns excs gs T31 "_law_word" ["script", "town"] := ⟨4, dd "_law_word" 28, ["script", "town"], [], D__law_word.body, by decide +kernel, List.mem_of_getElem? (i := 17) rfl, rfl, rfl, rfl, by kernel_rfl, ⟨rfl, rfl, rfl, by decide +kernel, rfl, by decide +kernel, by decide +kernel⟩, fun _ _ _ _ _ _ us hl => match us, hl with | [_, _], _ => rfl⟩
theorem ok__law_simple : DefOk fn fns excs gs T31 "_law_simple" ["script", "town"] := ⟨5, dd "_law_simple" 29, ["script", "town", "way", "v", "w"], [], D__law_simple.body, by decide +kernel, List.mem_of_getElem? (i := 18) rfl, rfl, rfl, rfl, by kernel_rfl, ⟨rfl, rfl, rfl, by decide +kernel, rfl, by decide +kernel, by decide +kernel⟩, fun _ _ _ _ _ _ us hl => match us, hl with | [_, _], _ => rfl⟩
theorem ok_law : DefOk fn fns excs gs T31 "law" ["script"] := ⟨0, dd "law" 30, ["script", "town", "text", "one", "other", "either", "both", "first", "second", "v", "w"], [], D_law_k31.body, by decide +kernel, List.mem_of_getElem? (i := 19) rfl, rfl, rfl, rfl, by kernel_rfl, ⟨rfl, rfl, rfl, by decide +kernel, rfl, by decide +kernel, by decide +kernel⟩, fun _ _ _ _ _ _ us hl => match us, hl with | [_], _ => rfl⟩
theorem all_ok : ∀ x ∈ fns, ∃ ps, DefOk fn fns excs gs T31 x ps := by
  intro x hx
  simp only [fns, List.mem_cons, List.not_mem_nil, or_false] at hx
  rcases hx with rfl | rfl | rfl | rfl | rfl | rfl | rfl | rfl | rfl | rfl | rfl | rfl | rfl | rfl | rfl | rfl | rfl | rfl | rfl | rfl
  · exact ⟨_, ok_is_between⟩
  · exact ⟨_, ok_are_words⟩
  · exact ⟨_, ok_is_simple⟩
  · exact ⟨_, ok_is_at_most⟩
  · exact ⟨_, ok_is_question⟩
  · exact ⟨_, ok_check_question⟩
  · exact ⟨_, ok_check_text⟩
  · exact ⟨_, ok_are_close⟩
  · exact ⟨_, ok_does_find⟩
  · exact ⟨_, ok_finds⟩
  · exact ⟨_, ok_check_size⟩
  · exact ⟨_, ok_is_least_find⟩
  · exact ⟨_, ok_is_least⟩
  · exact ⟨_, ok_least_finds⟩
  · exact ⟨_, ok__law_town⟩
  · exact ⟨_, ok__law_draw⟩
  · exact ⟨_, ok__law_pick⟩
  · exact ⟨_, ok__law_word⟩
  · exact ⟨_, ok__law_simple⟩
  · exact ⟨_, ok_law⟩
def fa : List He.Fa := faOf fns excs gs
abbrev Rw : PySem.W.OpenRow := PySem.W.OpenLaw.row PySem.Challenge.rw_wordfinds_k31_least_in_parts
abbrev hk : PySem.W.Hook := He.hookD 6 fa fn
def ob (s : PySem.W.SharedT) : He.AlD := He.obsDG 6 fa fn (HandSHeadRun.getT s)
theorem ob_eq (s : PySem.W.SharedT) : ob s = hk.obs s.abs := He.obsDG_eq (HandSHeadRun.getT_eq s)
def loose : List Str := looseOf P
theorem hrun (w : World) : HandSHeadRun.RunEq Rw (PySem.W.view Rw.prog [30]) hk ob 4000 loose w := by
  intro os
  kernel_rfl
end J31
open PySem PySem.W PySem.Calls PyProof.Rows
theorem PySem.Challenge.cw_wordfinds_k31_least_in_parts_holds : PySem.Challenge.rw_wordfinds_k31_least_in_parts.Holds := by
  w_on; o_law
  refine HandSHeadRun.head_any (r := J31.Rw) (q := view J31.Rw.prog [30]) (H := J31.hk) (ob := J31.ob) (M := 4000) (loose := J31.loose) (d := HandSHeadRun.topDef J31.Rw.prog 30) (kwd := []) J31.ob_eq
    (by kernel_rfl) (fun s => by kernel_rfl) J31.hrun (by kernel_rfl) (by kernel_rfl) (by kernel_rfl) (by rfl) (by first | assumption | decide +kernel) (by decide +kernel) ⟨rfl, rfl, rfl, rfl, rfl, by decide +kernel⟩ ?hw ?hc
  case hw => w_witness2
  case hc =>
    refine Wf.walk_ofX (l := PySem.Challenge.rw_wordfinds_k31_least_in_parts) (n := 63) (k := 40) (x := "script") (CX := L2.CX J31.P) rfl (by decide) (by kernel_rfl) Wf.room40 ?F (fun w H s e s2 => Wf.noCX J31.P w H s e s2)
    intro w mg fa h Y G hmg0
    obtain ⟨K, KX, c⟩ := Y
    have hmg : mg ("law" : PySem.Str) = some (.ref fa) := by
      have e : (HandSHeadRun.topDef J31.Rw.prog 30).name = ("law" : PySem.Str) := by kernel_rfl
      rw [← e]
      exact hmg0
    exact Wf.law_F J31.all_ok (by decide +kernel) J31.ok_law Wf.run31 w mg fa h KX c G hmg


