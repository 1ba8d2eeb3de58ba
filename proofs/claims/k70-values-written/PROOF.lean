import PyProof.Rows.All
import PySem.Str
import PySem.PyData
import PyProof.EqLayable
import PyProof.StrBlock
import Wide.All
import OpenK.AllK
import Wide.FinOn
import PyProof.EqAt
import PyProof.EqKinds
import PyProof.TupleCall
import HandS.Base
import HandS.Call
import HandS.List
import HandS.Comp
import HandS.Ends
import HandS.Dict
import HandS.Iter
import HandS.Text
import HandS.Walk
import HandS.TupAny
import HandS.IsInst
import HandS.Words
import HandS.Defaults
import HandS.CallLocal
import HandS.Exc
import HandS.ExcOwn
import HandS.CallSlots
import HandS.ExcInit
import HandS.ExcField
import HandS.ExcIs
import HandS.Flow
import KE.IntTextLaws
import HandS.TupMul
import HandS.Deep
import HandS.WordsExc
import HandS.HeadHook1
import HandS.HeadHook2
import KE.KExcIs
import KE.KIsAll
import HandS.Head0
import HandS.Head1
import HandS.Head2
import HandS.HeadEnd
import KE.KStateDown
import Lean
import HandS.More
import PySem.Challenge.RW_shardask_k70_values_written
set_option Elab.async false
set_option linter.all false
set_option maxRecDepth 100000
set_option autoImplicit false
set_option maxHeartbeats 0
/-! A small language with a plain semantics: the programs of the laws are told in it, and (MSound) each of its runs is one of the model's. -/
namespace Mini
open PySem
/-- the model's line for the lengths of texts, lists, tuples -/
abbrev LN : Nat := 16777216
/-- data, and references to cells and functions -/
inductive D where
  | non
  | bl (b : Bool)
  | int (i : Int)
  | str (s : List Nat)
  | tup (ds : List D)
  | lst (ds : List D)
  | dct (kvs : List (D × D))
  | ref (n : Nat)
  | fn (f : Nat)
  | frz (ds : List D)
deriving Inhabited
inductive Op where
  | add | sub | mul | fdiv | mod | pow | eq | ne | lt | le | gt | ge | isN | notN | mem | nmem
deriving DecidableEq
inductive Ty where
  | str | int | bool | tuple | list | dict
deriving DecidableEq
inductive Bi where
  | len | str | int | tuple | list | all | any | max2 | min2 | abs | sum | max | min | sorted | divmod | zipL | set | dict
  | join | find | split | index | count | get1 | get2 | values | partition | replace
deriving DecidableEq
/-- targets of for and of comprehensions -/
inductive Tg where
  | nm (i : Nat)
  | tp (is : List Nat)
mutual
inductive E where
  | lit (d : D)
  | var (i : Nat)
  | bvar (i : Nat)
  | glob (d : D)
  | tup (es : List E)
  | lst (es : List E)
  | op (o : Op) (a b : E)
  | chain (o o' : Op) (a b c : E)
  | neg (a : E)
  | not (a : E)
  | and (a b : E)
  | or (a b : E)
  | ife (c a b : E)
  | sub (a i : E)
  | slc (a : E) (lo hi : Option E)
  | bi (b : Bi) (es : List E)
  | mt (b : Bi) (o : E) (es : List E)
  | isi (a : E) (t : Ty)
  | call (f : Nat) (es : List E) (dfl : List D)
  | callv (i : Nat) (es : List E)
  | meth (o : E) (ms : List (Nat × Nat)) (es : List E) (dfl : List D)
  | fld (o : E) (f : Nat)
  | lc (e : E) (t : Tg) (it : It) (c : Option E)
  | isx (i : Nat) (c : Option Nat)
  | actx (i : Nat)
inductive It where
  | of (e : E)
  | range1 (e : E)
  | range2 (a b : E)
  | enum (e : E)
  | zip (a b : E)
  | rev (e : E)
  | items (e : E)
  | values (e : E)
end
inductive S where
  | set (i : Nat) (e : E)
  | own (i : Nat) (e : E)
  | new (i : Nat) (e : E)
  | frz (i : Nat)
  | unp (is : List Nat) (e : E)
  | sti (o i v : E)
  | unps (o k : E) (j : Nat) (e : E)
  | sto (s : Nat) (k v : E)
  | app (i : Nat) (e : E)
  | ext (i : Nat) (e : E)
  | rev (i : Nat)
  | rem (i : Nat) (e : E)
  | sda (i : Nat) (k e : E)
  | appc (o e : E)
  | fld (o : E) (f : Nat) (v : E)
  | aug (i : Nat) (o : Op) (e : E)
  | exp (e : E)
  | ret (e : E)
  | raise (c : Nat) (e : E)
  | ife (c : E) (a b : List S)
  | wh (n : Nat) (c : E) (b : List S)
  | for (t : Tg) (it : It) (b : List S)
  | try1 (b : List S) (c : Nat) (i : Nat) (h : List S)
  | pass
  | cont
/-! ### states -/
inductive Slot where
  | val (d : D)
  | own (d : D)
  | exn (c : Nat) (act : D)
deriving Inhabited
abbrev Env := List (Option Slot)
inductive Cell where
  | lst (ds : List D)
  | dct (kvs : List (D × D))
  | obj (c : Nat) (fs : List (Nat × D))
deriving Inhabited
abbrev Mem := List Cell
inductive R (α : Type) where
  | ok (a : α) (m : Mem)
  | exc (c : Nat) (act : D) (m : Mem)
  | bad
def R.bind {α β : Type} (r : R α) (f : α → Mem → R β) : R β := match r with
  | .ok a m => f a m
  | .exc c act m => .exc c act m
  | .bad => .bad
@[simp] theorem R.bind_ok {α β : Type} (a : α) (m : Mem) (f : α → Mem → R β) : (R.ok a m).bind f = f a m := rfl
@[simp] theorem R.bind_exc {α β : Type} (c : Nat) (act : D) (m : Mem) (f : α → Mem → R β) : (R.exc c act m).bind f = .exc c act m := rfl
@[simp] theorem R.bind_bad {α β : Type} (f : α → Mem → R β) : (R.bad).bind f = .bad := rfl
def R.of {α : Type} (o : Option α) (m : Mem) : R α := match o with
  | some a => .ok a m
  | none => .bad
@[simp] theorem R.of_some {α : Type} (a : α) (m : Mem) : R.of (some a) m = .ok a m := rfl
@[simp] theorem R.of_none {α : Type} (m : Mem) : R.of (none : Option α) m = .bad := rfl
/-! ### equality, by the library's own function -/
mutual
def toP : D → Option PyData
  | .non => some .none
  | .bl b => some (.bool b)
  | .int i => some (.int i)
  | .str s => some (.str ⟨s.toArray⟩)
  | .tup ds => (toPs ds).map .tuple
  | .lst ds => (toPs ds).map .list
  | .dct _ => none
  | .ref _ => none
  | .fn _ => none
  | .frz _ => none
def toPs : List D → Option (List PyData)
  | [] => some []
  | d :: ds => (toP d).bind fun p => (toPs ds).map fun ps => p :: ps
end
def deqO (a b : D) : Option Bool := (toP a).bind fun p => (toP b).bind fun q => if SeqAt.shaped p && SeqAt.shaped q then some (PyData.eqv p q) else none
def deq (a b : D) : Option Bool := match a, b with
  | .str x, .str y => some (decide (x = y))
  | a, b => deqO a b
/-! ### the operations on data -/
/-- lists of codes in the order of texts -/
def slt : List Nat → List Nat → Bool
  | _, [] => false
  | [], _ :: _ => true
  | x :: xs, y :: ys => if x = y then slt xs ys else decide (x < y)
def small (i : Int) : Bool := decide (-(2 ^ 64) < i) && decide (i < 2 ^ 64)
def sameKey : D → D → Option Bool
  | .str a, .str b => some (decide (a = b))
  | .int a, .int b => some (decide (a = b))
  | .tup a, .tup b => deqO (.tup a) (.tup b)
  | _, _ => none
def lookD (k : D) : List (D × D) → Option (Option D)
  | [] => some none
  | (x, v) :: r => (sameKey x k).bind fun b => if b then some (some v) else lookD k r
def addD : D → D → Option D
  | .int i, .int j => some (.int (i + j))
  | .str a, .str b => if a.length + b.length ≤ LN then some (.str (a ++ b)) else none
  | .lst a, .lst b => if a.length + b.length ≤ LN then some (.lst (a ++ b)) else none
  | .tup a, .tup b => if a.length + b.length ≤ LN then some (.tup (a ++ b)) else none
  | _, _ => none
def mulD : D → D → Option D
  | .int i, .int j => if (small i || small j) = true then some (.int (i * j)) else none
  | .str a, .int k => if -1000 ≤ k ∧ k ≤ 1000 ∧ a.length ≤ 1000 then some (.str (List.replicate k.toNat a).flatten) else none
  | .lst a, .int k => if -1000 ≤ k ∧ k ≤ 1000 ∧ a.length ≤ 1000 then some (.lst (List.replicate k.toNat a).flatten) else none
  | .tup a, .int k => if 2 ≤ k ∧ k ≤ 1000 ∧ a.length ≤ 1000 ∧ a ≠ [] then some (.tup (List.replicate k.toNat a).flatten) else none
  | _, _ => none
def ltD : D → D → Option Bool
  | .int i, .int j => some (decide (i < j))
  | .str a, .str b => some (slt a b)
  | _, _ => none
def txts : List D → Option (List (List Nat))
  | [] => some []
  | .str s :: r => (txts r).map (s :: ·)
  | _ => none
def memOp (x : D) : D → Option Bool
  | .str b => match x with
    | .str [c] => some (b.contains c)
    | _ => none
  | .lst ys => (toP x).bind fun p => (toPs ys).bind fun ps => if (SeqAt.shaped p && SeqAt.shaped (.list ps)) = true then some (ps.any fun z => PyData.eqv z p) else none
  | .tup ys => match x with
    | .str a => (txts ys).map fun ss => ss.contains a
    | _ => none
  | _ => none
def isNon : D → Bool
  | .non => true
  | _ => false
def opD : Op → D → D → Option D
  | .add, a, b => addD a b
  | .sub, .int i, .int j => some (.int (i - j))
  | .mul, a, b => mulD a b
  | .fdiv, .int i, .int j => if 0 < j ∧ j < 1073741824 then some (.int (i / j)) else none
  | .mod, .int i, .int j => if 0 < j then some (.int (i % j)) else none
  | .pow, .int i, .int j => if 0 ≤ j ∧ j ≤ 1000 ∧ small i = true then some (.int (i ^ j.toNat)) else none
  | .eq, a, b => (deq a b).map .bl
  | .ne, a, b => (deq a b).map fun k => .bl (!k)
  | .lt, a, b => (ltD a b).map .bl
  | .gt, a, b => (ltD b a).map .bl
  | .le, a, b => (ltD b a).map fun k => .bl (!k)
  | .ge, a, b => (ltD a b).map fun k => .bl (!k)
  | .isN, a, .non => some (.bl (isNon a))
  | .notN, a, .non => some (.bl (!isNon a))
  | .mem, a, b => (memOp a b).map .bl
  | .nmem, a, b => (memOp a b).map fun k => .bl (!k)
  | _, _, _ => none
def ixOf (n : Nat) (i : Int) : Option Nat := if 0 ≤ i then (if i < n then some i.toNat else none) else if -(n : Int) ≤ i then some (i + n).toNat else none
def atD {α : Type} (xs : List α) (i : Int) : Option α := if xs.length ≤ LN then (ixOf xs.length i).bind fun j => xs[j]? else none
def subD : D → D → Option D
  | .str s, .int i => (atD s i).map fun c => .str [c]
  | .lst ds, .int i => atD ds i
  | .tup ds, .int i => atD ds i
  | _, _ => none
/-- a bound of a slice, as a place from 0 to n -/
def sIx (n dflt : Nat) : Option Int → Nat
  | none => dflt
  | some i => if i < 0 then (i + n).toNat else min i.toNat n
def cutL {α : Type} (xs : List α) (lo hi : Option Int) : List α := (xs.drop (sIx xs.length 0 lo)).take (sIx xs.length xs.length hi - sIx xs.length 0 lo)
def slcD (lo hi : Option Int) : D → Option D
  | .str s => if s.length ≤ LN then some (.str (cutL s lo hi)) else none
  | .lst ds => some (.lst (cutL ds lo hi))
  | .tup ds => some (.tup (cutL ds lo hi))
  | _ => none
/-- the figures of a number -/
def figs (n : Nat) : List Nat := (Nat.toDigits 10 n).map Char.toNat
def strInt (i : Int) : List Nat := if i < 0 then 45 :: figs i.natAbs else figs i.natAbs
/-- a text of figures, with perhaps - ahead, as a number -/
def isFig (c : Nat) : Bool := decide (48 ≤ c) && decide (c ≤ 57)
def numOf (s : List Nat) : Int := s.foldl (fun (n : Int) (c : Nat) => 10 * n + ((c : Int) - 48)) 0
def intStr (s : List Nat) : Option Int := if 0 < s.length ∧ s.length ≤ 600 ∧ s.all isFig = true then some (numOf s) else none
def allBl : List D → Option Bool
  | [] => some true
  | .bl b :: r => if b then allBl r else (if r.all (fun | .bl _ => true | _ => false) then some false else none)
  | _ => none
def anyBl : List D → Option Bool
  | [] => some false
  | .bl b :: r => if b then (if r.all (fun | .bl _ => true | _ => false) then some true else none) else anyBl r
  | _ => none
def intsL : List D → Option (List Int)
  | [] => some []
  | .int s :: r => (intsL r).map (s :: ·)
  | _ => none
def joinL (sep : List Nat) : List (List Nat) → List Nat
  | [] => []
  | [x] => x
  | x :: r => x ++ sep ++ joinL sep r
def splitSign (c : Nat) : List Nat → List (List Nat)
  | [] => [[]]
  | x :: r => if x = c then [] :: splitSign c r else match splitSign c r with
    | [] => [[x]]
    | p :: q => (x :: p) :: q
def indexD (x : D) : List D → Nat → Option Nat
  | [], _ => none
  | y :: ys, k => (deqO y x).bind fun b => if b then some k else indexD x ys (k + 1)
def countD (x : D) : List D → Option Nat
  | [] => some 0
  | y :: ys => (deqO y x).bind fun b => (countD x ys).map fun n => if b then n + 1 else n
def biD : Bi → List D → Option D
  | .len, [.str s] => if s.length ≤ LN then some (.int s.length) else none
  | .len, [.lst s] => some (.int s.length)
  | .len, [.tup s] => some (.int s.length)
  | .str, [.int i] => if i.natAbs < 2 ^ 1900 then some (.str (strInt i)) else none
  | .int, [.bl b] => some (.int (if b then 1 else 0))
  | .int, [.str s] => (intStr s).map .int
  | .tuple, [.lst ds] => some (.tup ds)
  | .tuple, [.tup ds] => some (.tup ds)
  | .list, [.lst ds] => some (.lst ds)
  | .list, [.tup ds] => some (.lst ds)
  | .all, [.lst ds] => (allBl ds).map .bl
  | .any, [.lst ds] => (anyBl ds).map .bl
  | .max2, [.int i, .int j] => some (.int (if j > i then j else i))
  | .min2, [.int i, .int j] => some (.int (if j < i then j else i))
  | .abs, [.int i] => some (.int (if i < 0 then -i else i))
  | .join, [.str sep, .lst ds] => (txts ds).bind fun ss => if (ss.map List.length).sum + ss.length * sep.length ≤ LN then some (.str (joinL sep ss)) else none
  | .find, [.str s, .str p] => some (.int (Txt.find ⟨s.toArray⟩ ⟨p.toArray⟩))
  | .split, [.str s, .str [c]] => if s.length + 2 ≤ LN then some (.lst ((splitSign c s).map .str)) else none
  | .index, [.lst ds, x] => (indexD x ds 0).map fun k => .int k
  | .count, [.lst ds, x] => (countD x ds).map fun k => .int k
  | .get1, [.dct kvs, k] => (lookD k kvs).map fun o => o.getD .non
  | .get2, [.dct kvs, k, d] => (lookD k kvs).map fun o => o.getD d
  | _, _ => none
/-- whose method it is -/
def recv : Bi → D → Bool
  | .join, .str _ => true
  | .find, .str _ => true
  | .split, .str _ => true
  | .partition, .str _ => true
  | .replace, .str _ => true
  | _, _ => false
def isTy (t : Ty) : D → Option Bool
  | .non => some false
  | .bl _ => some (decide (t = .bool) || decide (t = .int))
  | .int _ => some (decide (t = .int))
  | .str _ => some (decide (t = .str))
  | .tup _ => some (decide (t = .tuple))
  | .lst _ => some (decide (t = .list))
  | .dct _ => some (decide (t = .dict))
  | _ => none
/-- a cell's content, where a value names a list or a dict that may change -/
def peek (m : Mem) : D → D
  | .ref n => match m[n]? with
    | some (.lst ds) => .lst ds
    | some (.dct kvs) => .dct kvs
    | _ => .ref n
  | d => d
/-- .. a list that is only read (the script), too -/
def peekR (m : Mem) : D → D
  | .frz ds => .lst ds
  | .ref n => match m[n]? with
    | some (.lst ds) => .lst ds
    | some (.dct kvs) => .dct kvs
    | _ => .ref n
  | d => d
/-! ### names -/
def rdVal (env : Env) (i : Nat) : Option D := match env[i]? with
  | some (some (.val d)) => some d
  | _ => none
def rdAny (env : Env) (i : Nat) : Option D := match env[i]? with
  | some (some (.val d)) => some d
  | some (some (.own d)) => some d
  | _ => none
def tupItems : D → Option (List D)
  | .tup ds => some ds
  | _ => none
def putAll : List Nat → List D → Env → Option Env
  | [], [], env => some env
  | i :: is, d :: ds, env => putAll is ds (env.set i (some (.val d)))
  | _, _, _ => none
def bindT (t : Tg) (d : D) (env : Env) : Option Env := match t with
  | .nm i => some (env.set i (some (.val d)))
  | .tp is => (tupItems d).bind fun ds => putAll is ds env
/-! ### what is walked -/
def itemsOf : D → Option (List D)
  | .lst ds => some ds
  | .tup ds => some ds
  | .str s => some (s.map fun c => .str [c])
  | .frz ds => some ds
  | _ => none
def rangeL (lo : Int) (n : Nat) : List D := (List.range n).map fun (k : Nat) => .int (lo + (k : Int))
def enumL (ds : List D) : List D := ds.mapIdx fun k d => .tup [.int k, d]
def zipL (xs ys : List D) : List D := List.zipWith (fun x y => .tup [x, y]) xs ys
/-! ### expressions -/
def lcGo (step : D → Mem → R (Option D)) : List D → Mem → R (List D)
  | [], m => .ok [] m
  | d :: ds, m => (step d m).bind fun o m1 => (lcGo step ds m1).bind fun r m2 => .ok (match o with | some x => x :: r | none => r) m2
def lcStep (ee : Env → Mem → R D) (ec : Option (Env → Mem → R D)) (t : Tg) (env : Env) (d : D) (m : Mem) : R (Option D) := match bindT t d env with
  | none => .bad
  | some env' => (match ec with
    | none => (ee env' m).bind fun x m' => .ok (some x) m'
    | some ce => (ce env' m).bind fun k m' => match k with
      | .bl true => (ee env' m').bind fun x m'' => .ok (some x) m''
      | .bl false => .ok none m'
      | _ => .bad)
def R.still {α : Type} (r : R α) : R α := match r with
  | .exc _ _ _ => .bad
  | r => r
section
/-! functions by number: handed over, from one level of calls to the next -/
variable (cf : Nat → List D → Mem → R D) (sub : Nat → Option Nat → Bool)
mutual
def evalE (env : Env) : E → Mem → R D
  | .lit d, m => .ok d m
  | .var i, m => R.of (rdVal env i) m
  | .bvar i, m => R.of (rdAny env i) m
  | .glob d, m => .ok d m
  | .tup es, m => (evalEs env es m).bind fun ds m1 => .ok (.tup ds) m1
  | .lst es, m => (evalEs env es m).bind fun ds m1 => .ok (.lst ds) m1
  | .op o a b, m => (evalE env a m).bind fun x m1 => (evalE env b m1).bind fun y m2 => R.of (opD o (peek m2 x) (peek m2 y)) m2
  | .chain o o' a b c, m => (evalE env a m).bind fun x m1 => (evalE env b m1).bind fun y m2 => (R.of (opD o (peek m2 x) (peek m2 y)) m2).bind fun k m3 => match k with
    | .bl true => (evalE env c m3).bind fun z m4 => R.of (opD o' (peek m4 y) (peek m4 z)) m4
    | .bl false => .ok (.bl false) m3
    | _ => .bad
  | .neg a, m => (evalE env a m).bind fun x m1 => match x with
    | .int i => .ok (.int (-i)) m1
    | _ => .bad
  | .not a, m => (evalE env a m).bind fun x m1 => match x with
    | .bl b => .ok (.bl (!b)) m1
    | _ => .bad
  | .and a b, m => (evalE env a m).bind fun x m1 => match x with
    | .bl true => evalE env b m1
    | .bl false => .ok (.bl false) m1
    | _ => .bad
  | .or a b, m => (evalE env a m).bind fun x m1 => match x with
    | .bl true => .ok (.bl true) m1
    | .bl false => evalE env b m1
    | _ => .bad
  | .ife c a b, m => (evalE env c m).bind fun x m1 => match x with
    | .bl true => evalE env a m1
    | .bl false => evalE env b m1
    | _ => .bad
  | .sub a i, m => (evalE env a m).bind fun x m1 => (evalE env i m1).bind fun y m2 => R.of (subD (peekR m2 x) y) m2
  | .slc a lo hi, m => (evalE env a m).bind fun x m1 => (evalO env lo m1).bind fun y m2 => (evalO env hi m2).bind fun z m3 => R.of (slcD y z (peekR m3 x)) m3
  | .bi b es, m => (evalEs env es m).bind fun ds m1 => R.of (biD b (ds.map (peekR m1))) m1
  | .mt b o es, m => (evalE env o m).bind fun x m1 => if recv b (peekR m1 x) = true then (evalEs env es m1).bind fun ds m2 => R.of (biD b (peekR m1 x :: ds.map (peekR m2))) m2 else .bad
  | .isi a t, m => (evalE env a m).bind fun x m1 => R.of ((isTy t (peekR m1 x)).map .bl) m1
  | .call f es dfl, m => (evalEs env es m).bind fun ds m1 => cf f (ds ++ dfl) m1
  | .callv i es, m => (evalEs env es m).bind fun ds m1 => match rdVal env i with
    | some (.fn f) => cf f ds m1
    | _ => .bad
  | .meth o ms es dfl, m => (evalE env o m).bind fun x m1 => match x with
    | .ref n => (match m1[n]? with
      | some (.obj c _) => (match ms.lookup c with
        | some f => (evalEs env es m1).bind fun ds m2 => cf f (.ref n :: (ds ++ dfl)) m2
        | none => .bad)
      | _ => .bad)
    | _ => .bad
  | .fld o f, m => (evalE env o m).bind fun x m1 => match x with
    | .ref n => (match m1[n]? with
      | some (.obj _ fs) => R.of (fs.lookup f) m1
      | _ => .bad)
    | _ => .bad
  | .lc e t it c, m => (evalI env it m).bind fun ds m1 => (lcGo (lcStep (fun env m => evalE env e m) (match c with
      | none => none
      | some ce => some fun env m => evalE env ce m) t env) ds m1).still.bind fun ds m2 => if ds.length ≤ LN then .ok (.lst ds) m2 else .bad
  | .isx i c, m => match env[i]? with
    | some (some (.exn k _)) => .ok (.bl (sub k c)) m
    | _ => .bad
  | .actx i, m => match env[i]? with
    | some (some (.exn _ act)) => .ok act m
    | _ => .bad
def evalEs (env : Env) : List E → Mem → R (List D)
  | [], m => .ok [] m
  | e :: es, m => (evalE env e m).bind fun x m1 => (evalEs env es m1).bind fun xs m2 => .ok (x :: xs) m2
def evalO (env : Env) : Option E → Mem → R (Option Int)
  | none, m => .ok none m
  | some e, m => (evalE env e m).bind fun x m1 => match x with
    | .int i => .ok (some i) m1
    | _ => .bad
def evalI (env : Env) : It → Mem → R (List D)
  | .of e, m => (evalE env e m).bind fun x m1 => R.of (itemsOf x) m1
  | .range1 e, m => (evalE env e m).bind fun x m1 => match x with
    | .int j => if -(2 ^ 62) ≤ j ∧ j < 2 ^ 62 then .ok (rangeL 0 j.toNat) m1 else .bad
    | _ => .bad
  | .range2 a b, m => (evalE env a m).bind fun x m1 => (evalE env b m1).bind fun y m2 => match x, y with
    | .int i, .int j => if -(2 ^ 62) ≤ i ∧ i < 2 ^ 62 ∧ -(2 ^ 62) ≤ j ∧ j < 2 ^ 62 then .ok (rangeL i (j - i).toNat) m2 else .bad
    | _, _ => .bad
  | .enum e, m => (evalE env e m).bind fun x m1 => match x with
    | .lst ds => .ok (enumL ds) m1
    | .frz ds => .ok (enumL ds) m1
    | _ => .bad
  | .zip a b, m => (evalE env a m).bind fun x m1 => (evalE env b m1).bind fun y m2 => (R.of (itemsOf x) m2).bind fun xs m3 => (R.of (itemsOf y) m3).bind fun ys m4 => .ok (zipL xs ys) m4
  | .rev e, m => (evalE env e m).bind fun x m1 => (R.of (itemsOf x) m1).bind fun ds m2 => .ok ds.reverse m2
  | .items e, m => (evalE env e m).bind fun x m1 => match peek m1 x with
    | .dct kvs => .ok (kvs.map fun p => .tup [p.1, p.2]) m1
    | _ => .bad
  | .values e, m => (evalE env e m).bind fun x m1 => match peek m1 x with
    | .dct kvs => .ok (kvs.map (·.2)) m1
    | _ => .bad
end
def condE : Option E → Option (Env → Mem → R D)
  | none => none
  | some ce => some fun env m => evalE cf sub env ce m
theorem evalE_lc {env : Env} {e : E} {t : Tg} {it : It} {c : Option E} {m : Mem} : evalE cf sub env (.lc e t it c) m = (evalI cf sub env it m).bind fun ds m1 => (lcGo (lcStep (fun env m => evalE cf sub env e m) (condE cf sub c) t env) ds m1).still.bind fun ds m2 => if ds.length ≤ LN then .ok (.lst ds) m2 else .bad := by
  cases c <;> rfl
/-! ### statements -/
inductive RS where
  | nx (env : Env) (m : Mem)
  | ret (d : D) (m : Mem)
  | cont (env : Env) (m : Mem)
  | exc (c : Nat) (act : D) (env : Env) (m : Mem)
  | bad
def RS.then (r : RS) (f : Env → Mem → RS) : RS := match r with
  | .nx env m => f env m
  | r => r
def toS {α : Type} (env : Env) (r : R α) (f : α → Mem → RS) : RS := match r with
  | .ok a m => f a m
  | .exc c act m => .exc c act env m
  | .bad => .bad
def forGo (body : Env → Mem → RS) (t : Tg) : List D → Env → Mem → RS
  | [], env, m => .nx env m
  | d :: ds, env, m => match bindT t d env with
    | none => .bad
    | some env' => (match body env' m with
      | .nx env m => forGo body t ds env m
      | .cont env m => forGo body t ds env m
      | r => r)
def whGo (test : Env → Mem → R D) (body : Env → Mem → RS) : Nat → Env → Mem → RS
  | 0, _, _ => .bad
  | n + 1, env, m => toS env (test env m) fun k m1 => match k with
    | .bl true => (match body env m1 with
      | .nx env m => whGo test body n env m
      | .cont env m => whGo test body n env m
      | r => r)
    | .bl false => .nx env m1
    | _ => .bad
/-- the own list in a slot -/
def ownL (env : Env) (i : Nat) : Option (List D) := match env[i]? with
  | some (some (.own (.lst ds))) => some ds
  | _ => none
def putD (k v : D) : List (D × D) → Option (List (D × D))
  | [] => some [(k, v)]
  | (x, y) :: r => (sameKey x k).bind fun b => if b then some ((x, v) :: r) else (putD k v r).map ((x, y) :: ·)
def setF (f : Nat) (v : D) : List (Nat × D) → List (Nat × D)
  | [] => [(f, v)]
  | (g, y) :: r => if g = f then (g, v) :: r else (g, y) :: setF f v r
def remD (x : D) : List D → Option (List D)
  | [] => none
  | y :: ys => (deqO y x).bind fun b => if b then some ys else (remD x ys).map (y :: ·)
def noExn : Env → Bool
  | [] => true
  | some (.exn _ _) :: _ => false
  | _ :: r => noExn r
mutual
def execS (env : Env) : S → Mem → RS
  | .set i e, m => toS env (evalE cf sub env e m) fun d m1 => .nx (env.set i (some (.val d))) m1
  | .own i e, m => toS env (evalE cf sub env e m) fun d m1 => .nx (env.set i (some (.own d))) m1
  | .new i e, m => toS env (evalE cf sub env e m) fun d m1 => match d with
    | .lst ds => .nx (env.set i (some (.val (.ref m1.length)))) (m1 ++ [.lst ds])
    | _ => .bad
  | .frz i, m => match ownL env i with
    | some ds => .nx (env.set i (some (.val (.lst ds)))) m
    | none => .nx env m
  | .unp is e, m => toS env (evalE cf sub env e m) fun d m1 => match (tupItems d).bind fun ds => putAll is ds env with
    | some env' => .nx env' m1
    | none => .bad
  | .sti o i v, m => toS env (evalE cf sub env v m) fun y m1 => toS env (evalE cf sub env o m1) fun x m2 => toS env (evalE cf sub env i m2) fun k m3 => match x with
    | .ref n => (match m3[n]? with
      | some (.lst ds) => (match k with
        | .int j => (match ixOf ds.length j with
          | some p => .nx env (m3.set n (.lst (ds.set p y)))
          | none => .bad)
        | _ => .bad)
      | _ => .bad)
    | _ => .bad
  | .unps o k j e, m => toS env (evalE cf sub env e m) fun d m1 => match d with
    | .tup [y, z] => toS env (evalE cf sub env o m1) fun x m2 => toS env (evalE cf sub env k m2) fun k m3 => (match x, k with
      | .ref n, .int p => (match m3[n]? with
        | some (.lst ds) => (match ixOf ds.length p with
          | some q => .nx (env.set j (some (.val z))) (m3.set n (.lst (ds.set q y)))
          | none => .bad)
        | _ => .bad)
      | _, _ => .bad)
    | _ => .bad
  | .sto s k v, m => toS env (evalE cf sub env v m) fun y m1 => toS env (evalE cf sub env k m1) fun x m2 => match env[s]? with
    | some (some (.own (.dct kvs))) => (match putD x y kvs with
      | some kvs' => if kvs.length < LN then .nx (env.set s (some (.own (.dct kvs')))) m2 else .bad
      | none => .bad)
    | _ => .bad
  | .app i e, m => match ownL env i with
    | some ds => toS env (evalE cf sub env e m) fun d m1 => if ds.length < LN then .nx (env.set i (some (.own (.lst (ds ++ [d]))))) m1 else .bad
    | none => .bad
  | .ext i e, m => toS env (evalE cf sub env e m) fun d m1 => match ownL env i, d with
    | some ds, .lst xs => if ds.length + xs.length ≤ LN then .nx (env.set i (some (.own (.lst (ds ++ xs))))) m1 else .bad
    | _, _ => .bad
  | .rev i, m => match ownL env i with
    | some ds => .nx (env.set i (some (.own (.lst ds.reverse)))) m
    | none => .bad
  | .rem i e, m => toS env (evalE cf sub env e m) fun d m1 => match (ownL env i).bind (remD d) with
    | some ds => .nx (env.set i (some (.own (.lst ds)))) m1
    | none => .bad
  | .sda _ _ _, _ => .bad
  | .appc o e, m => toS env (evalE cf sub env o m) fun x m1 => toS env (evalE cf sub env e m1) fun d m2 => match x with
    | .ref n => (match m2[n]? with
      | some (.lst ds) => if ds.length < LN then .nx env (m2.set n (.lst (ds ++ [d]))) else .bad
      | _ => .bad)
    | _ => .bad
  | .fld o f v, m => toS env (evalE cf sub env v m) fun y m1 => toS env (evalE cf sub env o m1) fun x m2 => match x with
    | .ref n => (match m2[n]? with
      | some (.obj c fs) => if fs.length < 100 then .nx env (m2.set n (.obj c (setF f y fs))) else .bad
      | _ => .bad)
    | _ => .bad
  | .aug i o e, m => match rdVal env i with
    | some x => toS env (evalE cf sub env e m) fun y m1 => (match opD o x y with
      | some d => .nx (env.set i (some (.val d))) m1
      | none => .bad)
    | none => .bad
  | .exp e, m => toS env (evalE cf sub env e m) fun _ m1 => .nx env m1
  | .ret e, m => toS env (evalE cf sub env e m) fun d m1 => .ret d m1
  | .raise c e, m => toS env (evalE cf sub env e m) fun d m1 => .exc c d env m1
  | .ife c a b, m => toS env (evalE cf sub env c m) fun k m1 => match k with
    | .bl true => execSs env a m1
    | .bl false => execSs env b m1
    | _ => .bad
  | .wh n c b, m => whGo (fun env m => evalE cf sub env c m) (fun env m => execSs env b m) n env m
  | .for t it b, m => toS env (evalI cf sub env it m) fun ds m1 => forGo (fun env m => execSs env b m) t ds env m1
  | .try1 b c i h, m => match execSs env b m with
    | .exc k act env' m1 => if sub k (some k) = true then (if sub k (some c) = true then (match execSs (env'.set i (some (.exn k act))) h m1 with
        | .nx env'' m2 => if noExn (env''.set i none) = true then .nx (env''.set i none) m2 else .bad
        | _ => .bad) else .exc k act env' m1) else .bad
    | r => r
  | .pass, m => .nx env m
  | .cont, m => .cont env m
def execSs (env : Env) : List S → Mem → RS
  | [], m => .nx env m
  | s :: ss, m => match execS env s m with
    | .nx env' m1 => execSs env' ss m1
    | r => r
end
end
/-! ### functions -/
structure Fn where
  np : Nat
  ns : Nat
  body : List S
def startE (ds : List D) (ns : Nat) : Env := ds.map (fun d => some (.val d)) ++ List.replicate (ns - ds.length) none
def runFn (cf : Nat → List D → Mem → R D) (sub : Nat → Option Nat → Bool) (f : Fn) (ds : List D) (m : Mem) : R D := if ds.length = f.np then
    (match execSs cf sub (startE ds f.ns) f.body m with
    | .nx _ m1 => .ok .non m1
    | .ret d m1 => .ok d m1
    | .exc c act _ m1 => .exc c act m1
    | _ => .bad)
  else .bad
def callN (P : Nat → Option Fn) (sub : Nat → Option Nat → Bool) : Nat → Nat → List D → Mem → R D
  | 0, _, _, _ => .bad
  | k + 1, f, ds, m => match P f with
    | none => .bad
    | some fn => runFn (callN P sub k) sub fn ds m
end Mini

/-! How data of the small language stand in the abstract heap of the hand layer. -/
namespace Mini
open PySem PySem.Spec PyProof.Rows L2
/-- what the text's own functions and classes stand for -/
structure Cfg where
  K : PySem.W.Frag
  fnA : Nat → Addr
  clA : Nat → Addr
def sOf (l : List Nat) : Str := ⟨l.toArray⟩
theorem sOf_len (l : List Nat) : (sOf l).length = l.length := by simp [sOf, Str.length]
theorem sOf_cps (l : List Nat) : (sOf l).cps.toList = l := by simp [sOf]
theorem LN_eq : LN = sizeLine := by rw [sizeLine_eq]
/-- a tuple of the module's own top -/
def WrT (K : PySem.W.Frag) (a : Addr) (xs : List V) : Prop :=
  ∃ (o : Obj) (its : Array Value) (n : Nat), K.lookup a = some o ∧ o.cls = .type "tuple" ∧ o.data = .seq its n ∧ its.size ≤ sizeLine ∧ Vals xs its.toList
/-- C: what may change -/
def TupAt (G : Cfg) (C : List Addr) (H : Hp) (a : Addr) (xs : List V) : Prop := (a ∉ C ∧ H a = some (.tup xs)) ∨ WrT G.K a xs
theorem TupAt.sq {G : Cfg} {C : List Addr} {H : Hp} {a : Addr} {xs : List V} (h : TupAt G C H a xs) : SqT G.K H a xs := by
  rcases h with ⟨_, h⟩ | h
  · exact SqT.of h
  · exact .inr h
/-- a list of the module's own top -/
def WrL (K : PySem.W.Frag) (a : Addr) (xs : List V) : Prop :=
  ∃ (o : Obj) (its : Array Value) (n : Nat), K.lookup a = some o ∧ o.cls = .type "list" ∧ o.dict = none ∧ o.data = .seq its n ∧ its.size ≤ sizeLine ∧ Vals xs its.toList
/-- a list that is only read -/
def FrzAt (G : Cfg) (C : List Addr) (H : Hp) (a : Addr) (xs : List V) : Prop := (a ∉ C ∧ ∃ o, H a = some (.frz o (.lst xs))) ∨ WrL G.K a xs
theorem FrzAt.sq {G : Cfg} {C : List Addr} {H : Hp} {a : Addr} {xs : List V} (h : FrzAt G C H a xs) : SqL G.K H a xs := by
  rcases h with ⟨_, o, h⟩ | h
  · exact .inl (.inr ⟨o, h⟩)
  · exact .inr h
def keyD : D → Option Key
  | .int i => some (.inl i)
  | .str s => some (.inr (sOf s))
  | _ => none
def keysD : D → Option (List Key)
  | .tup ds => ds.mapM keyD
  | _ => none
mutual
def Den (G : Cfg) (ι C : List Addr) (H : Hp) : D → V → Prop
  | .non, v => v = .non
  | .bl b, v => v = .bl b
  | .int i, v => v = .int i
  | .str s, v => v = .str (sOf s)
  | .tup ds, v => ∃ a vs, v = .ref a ∧ TupAt G C H a vs ∧ Dens G ι C H ds vs
  | .lst ds, v => ∃ a vs, v = .ref a ∧ a ∉ C ∧ H a = some (.lst vs) ∧ Dens G ι C H ds vs
  | .dct kvs, v => ∃ a, v = .ref a ∧ a ∉ C ∧ ((∃ ws, H a = some (.dK ws) ∧ DensK G ι C H kvs ws) ∨ ∃ ws, H a = some (.dT ws) ∧ DensT G ι C H kvs ws)
  | .ref n, v => ∃ a, ι[n]? = some a ∧ v = .ref a
  | .fn f, v => v = .ref (G.fnA f)
  | .frz ds, v => ∃ a vs, v = .ref a ∧ FrzAt G C H a vs ∧ Dens G ι C H ds vs
termination_by structural d => d
def Dens (G : Cfg) (ι C : List Addr) (H : Hp) : List D → List V → Prop
  | [], vs => vs = []
  | d :: ds, vs => ∃ v r, vs = v :: r ∧ Den G ι C H d v ∧ Dens G ι C H ds r
termination_by structural d => d
def DensK (G : Cfg) (ι C : List Addr) (H : Hp) : List (D × D) → List (Key × V) → Prop
  | [], ws => ws = []
  | p :: ds, ws => ∃ v r, ws = v :: r ∧ DenK G ι C H p v ∧ DensK G ι C H ds r
termination_by structural d => d
def DenK (G : Cfg) (ι C : List Addr) (H : Hp) : D × D → Key × V → Prop
  | (k, d), w => keyD k = some w.1 ∧ Den G ι C H d w.2
termination_by structural d => d
def DensT (G : Cfg) (ι C : List Addr) (H : Hp) : List (D × D) → List (List Key × V) → Prop
  | [], ws => ws = []
  | p :: ds, ws => ∃ v r, ws = v :: r ∧ DenT G ι C H p v ∧ DensT G ι C H ds r
termination_by structural d => d
def DenT (G : Cfg) (ι C : List Addr) (H : Hp) : D × D → List Key × V → Prop
  | (k, d), w => keysD k = some w.1 ∧ Den G ι C H d w.2
termination_by structural d => d
end
/-- the heap goes on: what is tracked and not to be changed stays; new cells are new -/
structure Ext (C ι : List Addr) (H : Hp) (C' ι' : List Addr) (H' : Hp) : Prop where
  pre : ι <+: ι'
  keep : ∀ a o, H a = some o → a ∉ C → H' a = some o
  new : ∀ a, a ∈ C' → a ∈ C ∨ H a = none
theorem Ext.refl {C ι : List Addr} {H : Hp} : Ext C ι H C ι H := ⟨List.prefix_refl _, fun _ _ h _ => h, fun _ h => .inl h⟩
section
variable {G : Cfg} {ι ι' C C' : List Addr} {H H' : Hp}
theorem Ext.ix (x : Ext C ι H C' ι' H') {n : Nat} {a : Addr} (h : ι[n]? = some a) : ι'[n]? = some a := by
  obtain ⟨t, e⟩ := x.pre
  rw [← e, List.getElem?_append_left (by exact (List.getElem?_eq_some_iff.mp h).1)]
  exact h
theorem Ext.out (x : Ext C ι H C' ι' H') {a : Addr} {o : HO} (h : H a = some o) (n : a ∉ C) : a ∉ C' := fun m => by
  rcases x.new a m with z | z
  · exact n z
  · rw [h] at z; cases z
theorem TupAt.ext (x : Ext C ι H C' ι' H') {a : Addr} {xs : List V} (h : TupAt G C H a xs) : TupAt G C' H' a xs := by
  rcases h with ⟨n, h⟩ | h
  · exact .inl ⟨x.out h n, x.keep _ _ h n⟩
  · exact .inr h
theorem FrzAt.ext (x : Ext C ι H C' ι' H') {a : Addr} {xs : List V} (h : FrzAt G C H a xs) : FrzAt G C' H' a xs := by
  rcases h with ⟨n, o, h⟩ | h
  · exact .inl ⟨x.out h n, o, x.keep _ _ h n⟩
  · exact .inr h
mutual
theorem Den.ext (x : Ext C ι H C' ι' H') : ∀ {d : D} {v : V}, Den G ι C H d v → Den G ι' C' H' d v
  | .non, _, h => h
  | .bl _, _, h => h
  | .int _, _, h => h
  | .str _, _, h => h
  | .tup ds, _, h => by
    obtain ⟨a, vs, e, t, s⟩ := h
    exact ⟨a, vs, e, t.ext x, Dens.ext x s⟩
  | .lst ds, _, h => by
    obtain ⟨a, vs, e, n, t, s⟩ := h
    exact ⟨a, vs, e, x.out t n, x.keep _ _ t n, Dens.ext x s⟩
  | .dct kvs, _, h => by
    obtain ⟨a, e, n, h⟩ := h
    rcases h with ⟨ws, t, s⟩ | ⟨ws, t, s⟩
    · exact ⟨a, e, x.out t n, .inl ⟨ws, x.keep _ _ t n, DensK.ext x s⟩⟩
    · exact ⟨a, e, x.out t n, .inr ⟨ws, x.keep _ _ t n, DensT.ext x s⟩⟩
  | .ref n, _, h => by
    obtain ⟨a, e, h⟩ := h
    exact ⟨a, x.ix e, h⟩
  | .fn _, _, h => h
  | .frz ds, _, h => by
    obtain ⟨a, vs, e, t, s⟩ := h
    exact ⟨a, vs, e, t.ext x, Dens.ext x s⟩
termination_by structural d => d
theorem Dens.ext (x : Ext C ι H C' ι' H') : ∀ {ds : List D} {vs : List V}, Dens G ι C H ds vs → Dens G ι' C' H' ds vs
  | [], _, h => h
  | _ :: _, _, h => by
    obtain ⟨v, r, e, h, t⟩ := h
    exact ⟨v, r, e, Den.ext x h, Dens.ext x t⟩
termination_by structural d => d
theorem DensK.ext (x : Ext C ι H C' ι' H') : ∀ {ds : List (D × D)} {vs : List (Key × V)}, DensK G ι C H ds vs → DensK G ι' C' H' ds vs
  | [], _, h => h
  | _ :: _, _, h => by
    obtain ⟨v, r, e, h, t⟩ := h
    exact ⟨v, r, e, DenK.ext x h, DensK.ext x t⟩
termination_by structural d => d
theorem DenK.ext (x : Ext C ι H C' ι' H') : ∀ {p : D × D} {w : Key × V}, DenK G ι C H p w → DenK G ι' C' H' p w
  | (k, d), _, h => ⟨h.1, Den.ext x h.2⟩
termination_by structural d => d
theorem DensT.ext (x : Ext C ι H C' ι' H') : ∀ {ds : List (D × D)} {vs : List (List Key × V)}, DensT G ι C H ds vs → DensT G ι' C' H' ds vs
  | [], _, h => h
  | _ :: _, _, h => by
    obtain ⟨v, r, e, h, t⟩ := h
    exact ⟨v, r, e, DenT.ext x h, DensT.ext x t⟩
termination_by structural d => d
theorem DenT.ext (x : Ext C ι H C' ι' H') : ∀ {p : D × D} {w : List Key × V}, DenT G ι C H p w → DenT G ι' C' H' p w
  | (k, d), _, h => ⟨h.1, Den.ext x h.2⟩
termination_by structural d => d
end
theorem Dens.length : ∀ {ds : List D} {vs : List V}, Dens G ι C H ds vs → vs.length = ds.length
  | [], _, h => by rw [show _ = _ from h]; rfl
  | _ :: _, _, h => by
    obtain ⟨v, r, e, h, t⟩ := h
    rw [e, List.length_cons, List.length_cons, Dens.length t]
theorem Dens.get : ∀ {ds : List D} {vs : List V} {i : Nat} {d : D}, Dens G ι C H ds vs → ds[i]? = some d → ∃ v, vs[i]? = some v ∧ Den G ι C H d v
  | [], _, _, _, _, e => by simp at e
  | d :: ds, _, 0, _, h, e => by
    obtain ⟨v, r, rfl, h, t⟩ := h
    simp at e
    subst e
    exact ⟨v, by simp, h⟩
  | d :: ds, _, i + 1, _, h, e => by
    obtain ⟨v, r, rfl, h, t⟩ := h
    obtain ⟨w, h1, h2⟩ := Dens.get (i := i) t (by simpa using e)
    exact ⟨w, by simpa using h1, h2⟩
theorem Dens.getV : ∀ {ds : List D} {vs : List V} {i : Nat} {v : V}, Dens G ι C H ds vs → vs[i]? = some v → ∃ d, ds[i]? = some d ∧ Den G ι C H d v
  | [], _, _, _, h, e => by rw [show _ = _ from h] at e; simp at e
  | d :: ds, _, 0, _, h, e => by
    obtain ⟨v, r, rfl, h, t⟩ := h
    simp at e
    subst e
    exact ⟨d, by simp, h⟩
  | d :: ds, _, i + 1, _, h, e => by
    obtain ⟨v, r, rfl, h, t⟩ := h
    obtain ⟨w, h1, h2⟩ := Dens.getV (i := i) t (by simpa using e)
    exact ⟨w, by simpa using h1, h2⟩
theorem Dens.append : ∀ {ds es : List D} {vs ws : List V}, Dens G ι C H ds vs → Dens G ι C H es ws → Dens G ι C H (ds ++ es) (vs ++ ws)
  | [], _, _, _, h, k => by rw [show _ = _ from h]; exact k
  | d :: ds, _, _, _, h, k => by
    obtain ⟨v, r, rfl, h, t⟩ := h
    exact ⟨v, _, rfl, h, Dens.append t k⟩
theorem Dens.take : ∀ {ds : List D} {vs : List V} (n : Nat), Dens G ι C H ds vs → Dens G ι C H (ds.take n) (vs.take n)
  | _, _, 0, _ => rfl
  | [], _, _ + 1, h => by rw [show _ = _ from h]; rfl
  | _ :: _, _, n + 1, h => by
    obtain ⟨v, r, rfl, h, t⟩ := h
    exact ⟨v, _, rfl, h, Dens.take n t⟩
theorem Dens.drop : ∀ {ds : List D} {vs : List V} (n : Nat), Dens G ι C H ds vs → Dens G ι C H (ds.drop n) (vs.drop n)
  | _, _, 0, h => h
  | [], _, _ + 1, h => by rw [show _ = _ from h]; rfl
  | _ :: _, _, n + 1, h => by
    obtain ⟨v, r, rfl, h, t⟩ := h
    exact Dens.drop n t
theorem Dens.set : ∀ {ds : List D} {vs : List V} {d : D} {v : V} (n : Nat), Dens G ι C H ds vs → Den G ι C H d v → Dens G ι C H (ds.set n d) (vs.set n v)
  | [], _, _, _, _, h, _ => by rw [show _ = _ from h]; rfl
  | _ :: _, _, _, _, 0, h, k => by
    obtain ⟨v, r, rfl, h, t⟩ := h
    exact ⟨_, _, rfl, k, t⟩
  | _ :: _, _, _, _, n + 1, h, k => by
    obtain ⟨v, r, rfl, h, t⟩ := h
    exact ⟨v, _, rfl, h, Dens.set n t k⟩
theorem Dens.reverse : ∀ {ds : List D} {vs : List V}, Dens G ι C H ds vs → Dens G ι C H ds.reverse vs.reverse
  | [], _, h => by rw [show _ = _ from h]; rfl
  | _ :: _, _, h => by
    obtain ⟨v, r, rfl, h, t⟩ := h
    rw [List.reverse_cons, List.reverse_cons]
    exact (Dens.reverse t).append ⟨v, [], rfl, h, rfl⟩
theorem Dens.one {d : D} {v : V} (h : Den G ι C H d v) : Dens G ι C H [d] [v] := ⟨v, [], rfl, h, rfl⟩
theorem Dens.replicate {ds : List D} {vs : List V} (h : Dens G ι C H ds vs) : ∀ n : Nat, Dens G ι C H (List.replicate n ds).flatten (List.replicate n vs).flatten
  | 0 => rfl
  | n + 1 => by
    rw [List.replicate_succ, List.flatten_cons, List.replicate_succ, List.flatten_cons]
    exact h.append (Dens.replicate h n)
/-- flat lists -/
theorem Dens.txts : ∀ {ss : List (List Nat)} {vs : List V}, Dens G ι C H (ss.map .str) vs → vs = ss.map fun s => .str (sOf s)
  | [], _, h => h
  | s :: ss, _, h => by
    obtain ⟨v, r, rfl, h, t⟩ := h
    rw [Dens.txts t, show v = _ from h]
    rfl
theorem Dens.of_txts : ∀ {ss : List (List Nat)}, Dens G ι C H (ss.map .str) (ss.map fun s => .str (sOf s))
  | [] => rfl
  | s :: ss => ⟨_, _, rfl, rfl, Dens.of_txts⟩
theorem Dens.bls : ∀ {ss : List Bool} {vs : List V}, Dens G ι C H (ss.map .bl) vs → vs = ss.map V.bl
  | [], _, h => h
  | s :: ss, _, h => by
    obtain ⟨v, r, rfl, h, t⟩ := h
    rw [Dens.bls t, show v = _ from h]
    rfl
theorem Dens.of_ints : ∀ {ss : List Int}, Dens G ι C H (ss.map .int) (ss.map V.int)
  | [] => rfl
  | s :: ss => ⟨_, _, rfl, rfl, Dens.of_ints⟩
/-! data as the library reads them -/
mutual
theorem Den.dp : ∀ {d : D} {v : V} {p : PyData}, Den G ι C H d v → toP d = some p → Dp G.K H v p
  | .non, _, _, h, e => by cases e; rw [show _ = _ from h]; exact .non
  | .bl _, _, _, h, e => by cases e; rw [show _ = _ from h]; exact .bl _
  | .int _, _, _, h, e => by cases e; rw [show _ = _ from h]; exact .int _
  | .str _, _, _, h, e => by cases e; rw [show _ = _ from h]; exact .str _
  | .tup ds, _, _, h, e => by
    obtain ⟨a, vs, rfl, t, s⟩ := h
    obtain ⟨ps, e1, rfl⟩ := Option.map_eq_some_iff.mp (show (toPs ds).map PyData.tuple = _ from e)
    exact .tup t.sq (Dens.dp s e1)
  | .lst ds, _, _, h, e => by
    obtain ⟨a, vs, rfl, n, t, s⟩ := h
    obtain ⟨ps, e1, rfl⟩ := Option.map_eq_some_iff.mp (show (toPs ds).map PyData.list = _ from e)
    exact .lst (SqL.of t) (Dens.dp s e1)
  | .dct _, _, _, _, e => by cases e
  | .ref _, _, _, _, e => by cases e
  | .fn _, _, _, _, e => by cases e
  | .frz _, _, _, _, e => by cases e
termination_by structural d => d
theorem Dens.dp : ∀ {ds : List D} {vs : List V} {ps : List PyData}, Dens G ι C H ds vs → toPs ds = some ps → DpAll G.K H vs ps
  | [], _, _, h, e => by cases e; rw [show _ = _ from h]; exact .nil
  | d :: ds, _, _, h, e => by
    obtain ⟨v, r, rfl, h, t⟩ := h
    obtain ⟨p, e1, e2⟩ := Option.bind_eq_some_iff.mp (show (toP d).bind _ = _ from e)
    obtain ⟨ps, e3, rfl⟩ := Option.map_eq_some_iff.mp e2
    exact .cons (Den.dp h e1) (Dens.dp t e3)
termination_by structural d => d
end
/-- a value that is looked at: of any tracked list or dict -/
def DenP (G : Cfg) (ι C : List Addr) (H : Hp) (d : D) (v : V) : Prop := match d with
  | .lst ds => ∃ a vs, v = .ref a ∧ H a = some (.lst vs) ∧ Dens G ι C H ds vs
  | .dct kvs => ∃ a, v = .ref a ∧ ((∃ ws, H a = some (.dK ws) ∧ DensK G ι C H kvs ws) ∨ ∃ ws, H a = some (.dT ws) ∧ DensT G ι C H kvs ws)
  | d => Den G ι C H d v
theorem Den.b {d : D} {v : V} (h : Den G ι C H d v) : DenP G ι C H d v := by
  cases d with
  | lst ds =>
    obtain ⟨a, vs, e, n, t, s⟩ := h
    exact ⟨a, vs, e, t, s⟩
  | dct kvs =>
    obtain ⟨a, e, n, h⟩ := h
    exact ⟨a, e, h⟩
  | _ => exact h
theorem DenP.dp {d : D} {v : V} {p : PyData} (h : DenP G ι C H d v) (e : toP d = some p) : Dp G.K H v p := by
  cases d with
  | lst ds =>
    obtain ⟨a, vs, rfl, t, s⟩ := h
    obtain ⟨ps, e1, rfl⟩ := Option.map_eq_some_iff.mp (show (toPs ds).map PyData.list = _ from e)
    exact .lst (SqL.of t) (Dens.dp s e1)
  | dct kvs => cases e
  | _ => exact Den.dp h e
/-- a value that may be borrowed: an own list or dict too -/
def DenB (G : Cfg) (ι C : List Addr) (H : Hp) (d : D) (v : V) : Prop := match d with
  | .lst ds => ∃ a vs, v = .ref a ∧ a ∉ ι ∧ H a = some (.lst vs) ∧ Dens G ι C H ds vs
  | .dct kvs => ∃ a, v = .ref a ∧ a ∉ ι ∧ ((∃ ws, H a = some (.dK ws) ∧ DensK G ι C H kvs ws) ∨ ∃ ws, H a = some (.dT ws) ∧ DensT G ι C H kvs ws)
  | d => Den G ι C H d v
theorem DenB.p {d : D} {v : V} (h : DenB G ι C H d v) : DenP G ι C H d v := by
  cases d with
  | lst ds =>
    obtain ⟨a, vs, e, n, t, s⟩ := h
    exact ⟨a, vs, e, t, s⟩
  | dct kvs =>
    obtain ⟨a, e, n, h⟩ := h
    exact ⟨a, e, h⟩
  | _ => exact h
theorem Den.bb {d : D} {v : V} (h : Den G ι C H d v) (hC : ∀ a ∈ ι, a ∈ C) : DenB G ι C H d v := by
  cases d with
  | lst ds =>
    obtain ⟨a, vs, e, n, t, s⟩ := h
    exact ⟨a, vs, e, fun z => n (hC a z), t, s⟩
  | dct kvs =>
    obtain ⟨a, e, n, h⟩ := h
    exact ⟨a, e, fun z => n (hC a z), h⟩
  | _ => exact h
end
end Mini

/-! How a state of the small language stands in the hand layer's slots and abstract heap; what a run of it wants. -/
namespace Mini
open PySem PySem.Spec PyProof.Rows L2
/-- of lists that are read: tracked, known or written -/
def DenR (G : Cfg) (ι C : List Addr) (H : Hp) (d : D) (v : V) : Prop := match d with
  | .lst ds => ∃ a vs, v = .ref a ∧ SqL G.K H a vs ∧ Dens G ι C H ds vs
  | d => DenP G ι C H d v
theorem DenP.r {G : Cfg} {ι C : List Addr} {H : Hp} {d : D} {v : V} (h : DenP G ι C H d v) : DenR G ι C H d v := by
  cases d with
  | lst ds =>
    obtain ⟨a, vs, e, t, s⟩ := h
    exact ⟨a, vs, e, SqL.of t, s⟩
  | _ => exact h
def actN : Str := "act"
/-- names of fields -/
abbrev FdN := Nat → Str
def DensF (G : Cfg) (N : FdN) (ι C : List Addr) (H : Hp) : List (Nat × D) → List (Str × V) → Prop
  | [], ws => ws = []
  | (f, d) :: fs, ws => ∃ v r, ws = (N f, v) :: r ∧ Den G ι C H d v ∧ DensF G N ι C H fs r
structure Bs where
  ι : List Addr
  W : List Addr
  H : Hp
  N : FdN
  n : Nat
  xi : Option (Addr × Nat × Addr)
def OwnAt (G : Cfg) (ι C : List Addr) (H : Hp) (a : Addr) : D → Prop
  | .lst ds => ∃ vs, H a = some (.lst vs) ∧ Dens G ι C H ds vs
  | .dct kvs => (∃ ws, H a = some (.dK ws) ∧ DensK G ι C H kvs ws) ∨ ∃ ws, H a = some (.dT ws) ∧ DensT G ι C H kvs ws
  | _ => False
def SlotAt (G : Cfg) (B : Bs) (ι W : List Addr) (H : Hp) : Slot → V → Prop
  | .val d, v => Den G ι (ι ++ W) H d v
  | .own d, v => ∃ a, v = .ref a ∧ a ∈ W ∧ a ∉ B.W ∧ OwnAt G ι (ι ++ W) H a d
  | .exn c act, v => ∃ ea dd av, B.xi = some (ea, c, dd) ∧ v = .ref ea ∧ H dd = some (.xd [(actN, av)]) ∧ dd ∉ ι ++ W ∧ Den G ι (ι ++ W) H act av
def CellAt (G : Cfg) (B : Bs) (ι C : List Addr) (H : Hp) (a : Addr) : Cell → Prop
  | .lst ds => ∃ vs, H a = some (.lst vs) ∧ Dens G ι C H ds vs
  | .dct kvs => (∃ ws, H a = some (.dK ws) ∧ DensK G ι C H kvs ws) ∨ ∃ ws, H a = some (.dT ws) ∧ DensT G ι C H kvs ws
  | .obj c fs => ∃ dx fvs, H a = some (.ins (G.clA c) dx fvs) ∧ DensF G B.N ι C H fs fvs
/-- a part of a run changes cells alone -/
def Grow (ι : List Addr) (H : Hp) (ι' : List Addr) (H' : Hp) : Prop := Ext ι ι H ι' ι' H'
structure Rel (G : Cfg) (B : Bs) (ι W : List Addr) (M : Mem) (env : Env) (σ : L2.St) (H : Hp) : Prop where
  len : ι.length = M.length
  nd : ι.Nodup
  dis : ∀ a ∈ W, a ∉ ι
  live : ∀ a ∈ ι ++ W, ∃ o, H a = some o
  cells : ∀ (n : Nat) (c : Cell) (a : Addr), M[n]? = some c → ι[n]? = some a → CellAt G B ι (ι ++ W) H a c
  slots : ∀ (i : Nat) (s : Slot), env[i]? = some (some s) → ∃ v, σ[i]? = some (some v) ∧ SlotAt G B ι W H s v
  owns : ∀ (i j : Nat) (d d' : D) (v : V), env[i]? = some (some (.own d)) → env[j]? = some (some (.own d')) → σ[i]? = some (some v) → σ[j]? = some (some v) → i = j
  sl : σ.length = B.n
  base : Grow B.ι B.H ι H
  wnew : ∀ a ∈ W, a ∈ B.W ∨ B.H a = none
  wsub : ∀ a ∈ B.W, a ∈ W
section
variable {G : Cfg} {B : Bs} {ι ι' ι1 ι2 W C C' : List Addr} {H H' H1 H2 : Hp} {M M' M1 M2 : Mem} {env : Env} {σ : L2.St}
theorem Grow.refl : Grow ι H ι H := Ext.refl
theorem Grow.trans (x : Grow ι H ι1 H1) (y : Grow ι1 H1 ι2 H2) : Grow ι H ι2 H2 where
  pre := x.pre.trans y.pre
  keep := fun a o h n => y.keep a o (x.keep a o h n) (Ext.out x h n)
  new := fun a m => by
    rcases y.new a m with z | z
    · exact x.new a z
    · by_cases n : a ∈ ι
      · exact .inl n
      · refine .inr ?_
        cases q : H a with
        | none => rfl
        | some o => rw [x.keep a o q n] at z; cases z
theorem Grow.addW (x : Grow ι H ι' H') : Ext (ι ++ W) ι H (ι' ++ W) ι' H' where
  pre := x.pre
  keep := fun a o h n => x.keep a o h fun z => n (List.mem_append_left _ z)
  new := fun a m => by
    rcases List.mem_append.mp m with z | z
    · rcases x.new a z with q | q
      · exact .inl (List.mem_append_left _ q)
      · exact .inr q
    · exact .inl (List.mem_append_right _ z)
theorem DensF.ext {N : FdN} (x : Ext C ι H C' ι' H') : ∀ {fs : List (Nat × D)} {ws : List (Str × V)}, DensF G N ι C H fs ws → DensF G N ι' C' H' fs ws
  | [], _, h => h
  | (f, d) :: fs, _, h => by
    obtain ⟨v, r, e, h, t⟩ := h
    exact ⟨v, r, e, h.ext x, DensF.ext x t⟩
/-- an address not to be changed is kept by what changes others -/
theorem OwnAt.ext {a : Addr} {d : D} (x : Ext C ι H C' ι' H') (k : ∀ o, H a = some o → H' a = some o) (h : OwnAt G ι C H a d) : OwnAt G ι' C' H' a d := by
  cases d with
  | lst ds => obtain ⟨vs, e, t⟩ := h; exact ⟨vs, k _ e, t.ext x⟩
  | dct kvs =>
    rcases h with ⟨ws, e, t⟩ | ⟨ws, e, t⟩
    · exact .inl ⟨ws, k _ e, t.ext x⟩
    · exact .inr ⟨ws, k _ e, t.ext x⟩
  | _ => exact h.elim
theorem CellAt.ext {a : Addr} {c : Cell} (x : Ext C ι H C' ι' H') (k : ∀ o, H a = some o → H' a = some o) (h : CellAt G B ι C H a c) : CellAt G B ι' C' H' a c := by
  cases c with
  | lst ds => obtain ⟨vs, e, t⟩ := h; exact ⟨vs, k _ e, t.ext x⟩
  | dct kvs =>
    rcases h with ⟨ws, e, t⟩ | ⟨ws, e, t⟩
    · exact .inl ⟨ws, k _ e, t.ext x⟩
    · exact .inr ⟨ws, k _ e, t.ext x⟩
  | obj c fs => obtain ⟨dx, fvs, e, t⟩ := h; exact ⟨dx, fvs, k _ e, t.ext x⟩
theorem DenB.ext {d : D} {v : V} (x : Grow ι H ι' H') (n : ∀ a o, a ∈ ι' → H a = some o → a ∈ ι) (h : DenB G ι (ι ++ W) H d v) : DenB G ι' (ι' ++ W) H' d v := by
  cases d with
  | lst ds =>
    obtain ⟨a, vs, e, q, t, s⟩ := h
    exact ⟨a, vs, e, fun z => q (n a _ z t), x.keep _ _ t q, s.ext x.addW⟩
  | dct kvs =>
    obtain ⟨a, e, q, ⟨ws, t, s⟩ | ⟨ws, t, s⟩⟩ := h
    · exact ⟨a, e, fun z => q (n a _ z t), .inl ⟨ws, x.keep _ _ t q, s.ext x.addW⟩⟩
    · exact ⟨a, e, fun z => q (n a _ z t), .inr ⟨ws, x.keep _ _ t q, s.ext x.addW⟩⟩
  | _ => exact Den.ext x.addW h
theorem Grow.old (x : Grow ι H ι' H') : ∀ a o, a ∈ ι' → H a = some o → a ∈ ι := fun a o m e => by
  rcases x.new a m with z | z
  · exact z
  · rw [e] at z; cases z
theorem SlotAt.ext {s : Slot} {v : V} (x : Grow ι H ι' H') (nd : ∀ a ∈ W, a ∉ ι) (h : SlotAt G B ι W H s v) : SlotAt G B ι' W H' s v := by
  cases s with
  | val d => exact Den.ext x.addW h
  | own d =>
    obtain ⟨a, e, m, nb, o⟩ := h
    exact ⟨a, e, m, nb, o.ext x.addW fun ob q => x.keep a ob q (nd a m)⟩
  | exn c act =>
    obtain ⟨ea, dd, av, e1, e2, e3, n, d⟩ := h
    exact ⟨ea, dd, av, e1, e2, x.addW.keep _ _ e3 n, x.addW.out e3 n, d.ext x.addW⟩
/-- a value's heap grows, the cells and slots as they were (nothing of the cells is changed) -/
theorem Rel.grow (r : Rel G B ι W M env σ H) (k : ∀ a o, H a = some o → H' a = some o) : Rel G B ι W M env σ H' := by
  have x : Grow ι H ι H' := ⟨List.prefix_refl _, fun a o h _ => k a o h, fun _ h => .inl h⟩
  exact ⟨r.len, r.nd, r.dis, fun a m => let ⟨o, q⟩ := r.live a m; ⟨o, k a o q⟩, fun n c a e1 e2 => (r.cells n c a e1 e2).ext x.addW (k a),
    fun i s e => let ⟨v, e1, h⟩ := r.slots i s e; ⟨v, e1, h.ext x r.dis⟩, r.owns, r.sl, r.base.trans x, r.wnew, r.wsub⟩
theorem Grow.of_keep (k : ∀ a o, H a = some o → H' a = some o) : Grow ι H ι H' := ⟨List.prefix_refl _, fun a o h _ => k a o h, fun _ h => .inl h⟩
theorem keep_upd {p : Addr} {o : HO} (n : H p = none) : ∀ a u, H a = some u → upd H p o a = some u := fun a u h => by rw [upd_ne (ne_of_none h n)]; exact h
theorem Rel.fresh (r : Rel G B ι W M env σ H) {p : Addr} (n : H p = none) : p ∉ ι ++ W := fun m => by
  obtain ⟨o, q⟩ := r.live p m
  rw [n] at q; cases q
/-- a new list, tuple -/
theorem Rel.newLst (r : Rel G B ι W M env σ H) {p : Addr} {ds : List D} {vs : List V} (n : H p = none) (h : Dens G ι (ι ++ W) H ds vs) :
    Rel G B ι W M env σ (upd H p (.lst vs)) ∧ Den G ι (ι ++ W) (upd H p (.lst vs)) (.lst ds) (.ref p) ∧ Grow ι H ι (upd H p (.lst vs)) :=
  ⟨r.grow (keep_upd n), ⟨p, vs, rfl, r.fresh n, upd_same, h.ext (Grow.of_keep (keep_upd n)).addW⟩, Grow.of_keep (keep_upd n)⟩
theorem Rel.newTup (r : Rel G B ι W M env σ H) {p : Addr} {ds : List D} {vs : List V} (n : H p = none) (h : Dens G ι (ι ++ W) H ds vs) :
    Rel G B ι W M env σ (upd H p (.tup vs)) ∧ Den G ι (ι ++ W) (upd H p (.tup vs)) (.tup ds) (.ref p) ∧ Grow ι H ι (upd H p (.tup vs)) :=
  ⟨r.grow (keep_upd n), ⟨p, vs, rfl, .inl ⟨r.fresh n, upd_same⟩, h.ext (Grow.of_keep (keep_upd n)).addW⟩, Grow.of_keep (keep_upd n)⟩
/-- what a name holds -/
theorem Rel.rdVal (r : Rel G B ι W M env σ H) {i : Nat} {d : D} (e : rdVal env i = some d) : ∃ v, σ[i]? = some (some v) ∧ Den G ι (ι ++ W) H d v := by
  unfold Mini.rdVal at e
  split at e
  · rename_i d' q
    cases e
    exact r.slots i _ q
  · cases e
theorem Rel.rdAny (r : Rel G B ι W M env σ H) {i : Nat} {d : D} (e : rdAny env i = some d) : ∃ v, σ[i]? = some (some v) ∧ DenB G ι (ι ++ W) H d v := by
  unfold Mini.rdAny at e
  split at e
  · rename_i d' q
    cases e
    obtain ⟨v, h1, h2⟩ := r.slots i _ q
    exact ⟨v, h1, Den.bb h2 fun a m => List.mem_append_left _ m⟩
  · rename_i d' q
    cases e
    obtain ⟨v, h1, a, rfl, m, nb, o⟩ := r.slots i _ q
    refine ⟨_, h1, ?_⟩
    cases d with
    | lst ds => obtain ⟨vs, e, t⟩ := o; exact ⟨a, vs, rfl, r.dis a m, e, t⟩
    | dct kvs => exact ⟨a, rfl, r.dis a m, o⟩
    | _ => exact o.elim
  · cases e
/-- a cell's content -/
theorem Rel.peek (r : Rel G B ι W M env σ H) {d : D} {v : V} (h : DenB G ι (ι ++ W) H d v) : DenP G ι (ι ++ W) H (peek M d) v := by
  cases d with
  | ref n =>
    obtain ⟨a, e1, rfl⟩ := (show ∃ a, ι[n]? = some a ∧ v = .ref a from h)
    cases q : M[n]? with
    | none => rw [show Mini.peek M (.ref n) = .ref n by simp [Mini.peek, q]]; exact h
    | some c =>
      have hc := r.cells n c a q e1
      cases c with
      | lst ds => rw [show Mini.peek M (.ref n) = .lst ds by simp [Mini.peek, q]]; obtain ⟨vs, e, t⟩ := hc; exact ⟨a, vs, rfl, e, t⟩
      | dct kvs => rw [show Mini.peek M (.ref n) = .dct kvs by simp [Mini.peek, q]]; exact ⟨a, rfl, hc⟩
      | obj k fs => rw [show Mini.peek M (.ref n) = .ref n by simp [Mini.peek, q]]; exact h
  | _ => exact DenB.p h
theorem Rel.peekR (r : Rel G B ι W M env σ H) {d : D} {v : V} (h : DenB G ι (ι ++ W) H d v) : DenR G ι (ι ++ W) H (peekR M d) v := by
  cases d with
  | ref n =>
    obtain ⟨a, e1, rfl⟩ := (show ∃ a, ι[n]? = some a ∧ v = .ref a from h)
    cases q : M[n]? with
    | none => rw [show Mini.peekR M (.ref n) = .ref n by simp [Mini.peekR, q]]; exact h
    | some c =>
      have hc := r.cells n c a q e1
      cases c with
      | lst ds => rw [show Mini.peekR M (.ref n) = .lst ds by simp [Mini.peekR, q]]; obtain ⟨vs, e, t⟩ := hc; exact ⟨a, vs, rfl, SqL.of e, t⟩
      | dct kvs => rw [show Mini.peekR M (.ref n) = .dct kvs by simp [Mini.peekR, q]]; exact ⟨a, rfl, hc⟩
      | obj k fs => rw [show Mini.peekR M (.ref n) = .ref n by simp [Mini.peekR, q]]; exact h
  | frz ds =>
    obtain ⟨a, vs, e, t, u⟩ := (show Den G ι (ι ++ W) H (.frz ds) v from h)
    exact ⟨a, vs, e, t.sq, u⟩
  | _ => exact DenP.r (DenB.p h)
end
/-! ### what a run wants -/
/-- of an exception: its class, its dict, the value act -/
def XAt (G : Cfg) (ι C : List Addr) (H : Hp) (act : D) (dd : Addr) : Prop := ∃ av, H dd = some (.xd [(actN, av)]) ∧ dd ∉ C ∧ Den G ι C H act av
/-- den: how an answer stands; from ι, H on -/
def Sat {α β : Type} (G : Cfg) (B : Bs) (den : List Addr → List Addr → Hp → α → β → Prop) (Wx : WX) (W : List Addr) (env : Env) (σ : L2.St) (ι : List Addr) (H : Hp) (r : R α) (Q : β → Hp → Prop) : Prop := match r with
  | .ok d M' => ∀ v ι' H', Rel G B ι' W M' env σ H' → den ι' (ι' ++ W) H' d v → Grow ι H ι' H' → Q v H'
  | .exc c act M' => ∀ dd ι' H', Rel G B ι' W M' env σ H' → XAt G ι' (ι' ++ W) H' act dd → Grow ι H ι' H' → Wx (.ref (G.clA c)) (some dd) σ H'
  | .bad => False
section
variable {α β γ : Type} {G : Cfg} {B : Bs} {den : List Addr → List Addr → Hp → α → β → Prop} {Wx : WX} {W : List Addr} {env : Env} {σ : L2.St} {ι ι1 : List Addr} {H H1 : Hp} {r : R α} {Q Q' : β → Hp → Prop}
theorem Sat.later (g : Grow ι H ι1 H1) (h : Sat G B den Wx W env σ ι H r Q) : Sat G B den Wx W env σ ι1 H1 r Q := by
  cases r with
  | ok d M' => exact fun v ι' H' r' d' g' => h v ι' H' r' d' (g.trans g')
  | exc c act M' => exact fun dd ι' H' r' x' g' => h dd ι' H' r' x' (g.trans g')
  | bad => exact h
theorem Sat.mono (h : Sat G B den Wx W env σ ι H r Q) (q : ∀ v H, Q v H → Q' v H) : Sat G B den Wx W env σ ι H r Q' := by
  cases r with
  | ok d M' => exact fun v ι' H' r' d' g' => q _ _ (h v ι' H' r' d' g')
  | exc c act M' => exact h
  | bad => exact h
/-- one part, then the rest -/
theorem Sat.bind {den2 : List Addr → List Addr → Hp → γ → V → Prop} {f : α → Mem → R γ} {Qf : V → Hp → Prop} (h : Sat G B den2 Wx W env σ ι H (r.bind f) Qf) :
    Sat G B den Wx W env σ ι H r fun v H' => ∃ ι' d M', Rel G B ι' W M' env σ H' ∧ den ι' (ι' ++ W) H' d v ∧ Grow ι H ι' H' ∧ r = .ok d M' ∧ Sat G B den2 Wx W env σ ι' H' (f d M') Qf := by
  cases r with
  | ok d M' => exact fun v ι' H' r' d' g' => ⟨ι', d, M', r', d', g', rfl, h.later g'⟩
  | exc c act M' => exact h
  | bad => exact h
end
abbrev CF := Nat → List D → Mem → R D
abbrev SF := Nat → Option Nat → Bool
section
variable (G : Cfg) (B : Bs) (Wx : WX) (cf : CF) (sf : SF)
/-- an expression's reading -/
def tE (m : E) : TE := fun σ H Q => ∃ ι W M env, Rel G B ι W M env σ H ∧ Sat G B (Den G) Wx W env σ ι H (evalE cf sf env m M) Q
/-- .. its value only looked at -/
def tEB (m : E) : TE := fun σ H Q => ∃ ι W M env, Rel G B ι W M env σ H ∧ Sat G B (DenB G) Wx W env σ ι H (evalE cf sf env m M) Q
def tEs (ms : List E) : TA := fun σ H Q => ∃ ι W M env, Rel G B ι W M env σ H ∧ Sat G B (Dens G) Wx W env σ ι H (evalEs cf sf env ms M) Q
/-- arguments that are only looked at -/
def DensB (G : Cfg) (ι C : List Addr) (H : Hp) : List D → List V → Prop
  | [], vs => vs = []
  | d :: ds, vs => ∃ v r, vs = v :: r ∧ DenB G ι C H d v ∧ DensB G ι C H ds r
def tEsB (ms : List E) : TA := fun σ H Q => ∃ ι W M env, Rel G B ι W M env σ H ∧ Sat G B (DensB G) Wx W env σ ι H (evalEs cf sf env ms M) Q
end
theorem PE.imp {X : Cx} {e : Expr} {t t' : TE} (h : PE X e t) (i : ∀ σ H Q, t' σ H Q → t σ H Q) : PE X e t' := ⟨fun pins s σ H Q I hw => h.run pins s σ H Q I (i _ _ _ hw)⟩
theorem PT.imp {X : Cx} {e : Expr} {t t' : TT} (h : PT X e t) (i : ∀ σ H Q, t' σ H Q → t σ H Q) : PT X e t' := ⟨fun pins s σ H Q I hw => h.run pins s σ H Q I (i _ _ _ hw)⟩
theorem PW.imp {X : Cx} {e : Expr} {t t' : TT} (h : PW X e t) (i : ∀ σ H Q, t' σ H Q → t σ H Q) : PW X e t' := ⟨fun whole pins s σ H Q I hw => h.run whole pins s σ H Q I (i _ _ _ hw)⟩
theorem PA.imp {X : Cx} {e : List Expr} {t t' : TA} (h : PA X e t) (i : ∀ σ H Q, t' σ H Q → t σ H Q) : PA X e t' := ⟨fun pos pins s σ H Q I hw => h.run pos pins s σ H Q I (i _ _ _ hw)⟩
theorem PS.imp {X : Cx} {e : Stmt} {t t' : TS} (h : PS X e t) (i : ∀ D σ H, t' D σ H → t D σ H) : PS X e t' := ⟨fun pins s σ H D I hw => h.run pins s σ H D I (i _ _ _ hw)⟩
theorem PSs.imp {X : Cx} {e : List Stmt} {t t' : TS} (h : PSs X e t) (i : ∀ D σ H, t' D σ H → t D σ H) : PSs X e t' := ⟨fun pins s σ H D I hw => h.run pins s σ H D I (i _ _ _ hw)⟩
theorem OpR.imp {X : Cx} {f : Value → Value → Sem Value} {r r' : R2} (h : OpR X f r) (i : ∀ x y H Q, r' x y H Q → r x y H Q) : OpR X f r' := fun pins s σ H x y v u Q I rx ry q => h pins s σ H x y v u Q I rx ry (i _ _ _ _ q)
end Mini

/-! The operations of the small language, each by the hand layer's rules. -/
namespace Mini
open PySem PySem.Spec PyProof.Rows L2
/-- what an operation that writes nothing leaves: a value that stands as d, all kept -/
def Pure (G : Cfg) (ι C : List Addr) (d : D) (H : Hp) (Q : VK) : Prop := ∀ v H', (∀ a u, H a = some u → H' a = some u) → Den G ι C H' d v → Q v H'
theorem Pure.here {G : Cfg} {ι C : List Addr} {d : D} {H : Hp} {Q : VK} (p : Pure G ι C d H Q) {v : V} (h : Den G ι C H d v) : Q v H := p v H (fun _ _ h => h) h
def Live (C : List Addr) (H : Hp) : Prop := ∀ a ∈ C, ∃ u, H a = some u
theorem Live.out {C : List Addr} {H : Hp} (l : Live C H) {p : Addr} (n : H p = none) : p ∉ C := fun m => by
  obtain ⟨u, e⟩ := l p m
  rw [n] at e; cases e
theorem ext_keep {C ι : List Addr} {H H' : Hp} (k : ∀ a u, H a = some u → H' a = some u) : Ext C ι H C ι H' := ⟨List.prefix_refl _, fun a o h _ => k a o h, fun _ h => .inl h⟩
section
variable {G : Cfg} {ι C : List Addr} {H : Hp} {Q : VK}
theorem Pure.lst {ds : List D} {vs : List V} (p : Pure G ι C (.lst ds) H Q) (l : Live C H) (h : Dens G ι C H ds vs) : ∀ q, H q = none → Q (.ref q) (upd H q (.lst vs)) := fun q n =>
  p _ _ (keep_upd n) ⟨q, vs, rfl, l.out n, upd_same, h.ext (ext_keep (keep_upd n))⟩
theorem Pure.tup {ds : List D} {vs : List V} (p : Pure G ι C (.tup ds) H Q) (l : Live C H) (h : Dens G ι C H ds vs) : ∀ q, H q = none → Q (.ref q) (upd H q (.tup vs)) := fun q n =>
  p _ _ (keep_upd n) ⟨q, vs, rfl, .inl ⟨l.out n, upd_same⟩, h.ext (ext_keep (keep_upd n))⟩
end
/-- the context's side of the operations -/
structure OpX (G : Cfg) (X : Cx) : Prop where
  K : X.K = G.K
  un : X.A.units + 66 < cLine
theorem ite_some {α : Type} {c : Prop} [Decidable c] {a r : α} (h : (if c then some a else none) = some r) : c ∧ a = r := by
  split at h
  · exact ⟨by assumption, Option.some.inj h⟩
  · cases h
theorem sOf_app (a b : List Nat) : sOf a ++ sOf b = sOf (a ++ b) := by
  show (⟨a.toArray ++ b.toArray⟩ : Str) = ⟨(a ++ b).toArray⟩
  simp
theorem sOf_inj {a b : List Nat} (h : sOf a = sOf b) : a = b := by
  have e := congrArg (fun z : Str => z.cps.toList) h
  simpa [sOf] using e
/-- a binary operation, by data -/
def rO (G : Cfg) (o : Op) : R2 := fun x y H Q => ∃ ι C d e r, Live C H ∧ DenP G ι C H d x ∧ DenP G ι C H e y ∧ opD o d e = some r ∧ Pure G ι C r H Q
theorem slt_eq : ∀ (a b : List Nat), slt a b = decide (a < b)
  | a, [] => by
    cases a <;> simp [slt]
  | [], _ :: _ => by simp [slt]
  | x :: xs, y :: ys => by
    unfold slt
    by_cases e : x = y
    · subst e
      rw [if_pos rfl, slt_eq xs ys]
      congr 1
      simp [List.cons_lt_cons_iff]
    · rw [if_neg e]
      congr 1
      simp [List.cons_lt_cons_iff, e]
theorem small_mul {i j : Int} (h : (small i || small j) = true) : CMul i j := by
  simp only [small, Bool.or_eq_true, Bool.and_eq_true, decide_eq_true_eq] at h
  exact h
theorem small_lt {i : Int} (h : small i = true) : i.natAbs < 2 ^ 64 := by
  simp only [small, Bool.and_eq_true, decide_eq_true_eq] at h
  omega
section
variable {G : Cfg} {X : Cx} (o : OpX G X)
include o
theorem deqO_ok {ι C : List Addr} {H : Hp} {d e : D} {x y : V} {b : Bool} (hd : DenP G ι C H d x) (he : DenP G ι C H e y) (h : deqO d e = some b) :
    ∃ p q, Dp X.K H x p ∧ Dp X.K H y q ∧ SeqAt.shaped p = true ∧ SeqAt.shaped q = true ∧ PyData.eqv p q = b := by
  unfold deqO at h
  obtain ⟨p, e1, h⟩ := Option.bind_eq_some_iff.mp h
  obtain ⟨q, e2, h⟩ := Option.bind_eq_some_iff.mp h
  split at h
  · rename_i hs
    obtain ⟨s1, s2⟩ := Bool.and_eq_true_iff.mp hs
    rw [o.K]
    exact ⟨p, q, hd.dp e1, he.dp e2, s1, s2, Option.some.inj h⟩
  · cases h
omit o in
theorem deq_str_or (d e : D) : (∃ a b, d = .str a ∧ e = .str b ∧ deq d e = some (decide (a = b))) ∨ deq d e = deqO d e := by
  cases d <;> cases e <;> first
    | exact .inl ⟨_, _, rfl, rfl, rfl⟩
    | exact .inr rfl
omit o in
theorem sOf_dec {a b : List Nat} : decide ((V.str (sOf a)) = V.str (sOf b)) = decide (a = b) := by
  by_cases h : a = b
  · subst h; simp
  · have : V.str (sOf a) ≠ V.str (sOf b) := fun e => h (by
      injection e with e
      have := congrArg (fun s : Str => s.cps.toList) e
      simpa [sOf] using this)
    simp [h, this]
theorem opR_eq : OpR X (compareOp .Eq) (rO G .eq) := by
  refine OpR.imp (OpR.or (op_eqD (by have := o.un; omega)) op_eq) fun x y H Q ⟨ι, C, d, e, r, l, hd, he, h, q⟩ => ?_
  obtain ⟨b, hb, rfl⟩ := Option.map_eq_some_iff.mp (show (deq d e).map D.bl = some r from h)
  rcases deq_str_or d e with ⟨a, c, rfl, rfl, z⟩ | z
  · rw [z] at hb
    have e1 : x = .str (sOf a) := hd
    have e2 : y = .str (sOf c) := he
    subst e1 e2
    refine .inr ⟨rfl, ?_⟩
    rw [sOf_dec, Option.some.inj hb]
    exact q.here rfl
  · rw [z] at hb
    obtain ⟨p, p', h1, h2, s1, s2, e⟩ := deqO_ok o hd he hb
    exact .inl ⟨p, p', h1, h2, s1, s2, by rw [e]; exact q.here rfl⟩
theorem opR_ne : OpR X (compareOp .NotEq) (rO G .ne) := by
  refine OpR.imp (OpR.or (op_neD (by have := o.un; omega)) op_ne) fun x y H Q ⟨ι, C, d, e, r, l, hd, he, h, q⟩ => ?_
  obtain ⟨b, hb, rfl⟩ := Option.map_eq_some_iff.mp (show (deq d e).map (fun k => D.bl (!k)) = some r from h)
  rcases deq_str_or d e with ⟨a, c, rfl, rfl, z⟩ | z
  · rw [z] at hb
    have e1 : x = .str (sOf a) := hd
    have e2 : y = .str (sOf c) := he
    subst e1 e2
    refine .inr ⟨rfl, ?_⟩
    rw [sOf_dec, Option.some.inj hb]
    exact q.here rfl
  · rw [z] at hb
    obtain ⟨p, p', h1, h2, s1, s2, e⟩ := deqO_ok o hd he hb
    exact .inl ⟨p, p', h1, h2, s1, s2, by rw [e]; exact q.here rfl⟩
omit o in
theorem addD_cases {d e r : D} (h : addD d e = some r) : (∃ i j, d = .int i ∧ e = .int j ∧ r = .int (i + j)) ∨ (∃ a b, d = .str a ∧ e = .str b ∧ a.length + b.length ≤ LN ∧ r = .str (a ++ b)) ∨
    (∃ a b, d = .lst a ∧ e = .lst b ∧ a.length + b.length ≤ LN ∧ r = .lst (a ++ b)) ∨ (∃ a b, d = .tup a ∧ e = .tup b ∧ a.length + b.length ≤ LN ∧ r = .tup (a ++ b)) := by
  cases d <;> cases e <;> first
    | (cases h; done)
    | skip
  · exact .inl ⟨_, _, rfl, rfl, (Option.some.inj h).symm⟩
  · obtain ⟨h1, rfl⟩ := ite_some h
    exact .inr (.inl ⟨_, _, rfl, rfl, h1, rfl⟩)
  · obtain ⟨h1, rfl⟩ := ite_some h
    exact .inr (.inr (.inr ⟨_, _, rfl, rfl, h1, rfl⟩))
  · obtain ⟨h1, rfl⟩ := ite_some h
    exact .inr (.inr (.inl ⟨_, _, rfl, rfl, h1, rfl⟩))
theorem opR_add : OpR X (binaryOp .Add) (rO G .add) := by
  refine OpR.imp (OpR.or op_add (OpR.or op_add_str (OpR.or op_cat op_catA))) fun x y H Q ⟨ι, C, d, e, r, l, hd, he, h, q⟩ => ?_
  rcases addD_cases h with ⟨i, j, rfl, rfl, rfl⟩ | ⟨a, b, rfl, rfl, hz, rfl⟩ | ⟨a, b, rfl, rfl, hz, rfl⟩ | ⟨a, b, rfl, rfl, hz, rfl⟩
  · exact .inl ⟨i, j, hd, he, q.here rfl⟩
  · refine .inr (.inl ⟨sOf a, sOf b, hd, he, by rw [sOf_len, sOf_len, ← LN_eq]; exact hz, ?_⟩)
    rw [sOf_app]
    exact q.here rfl
  · obtain ⟨p, vs, rfl, e1, s1⟩ := hd
    obtain ⟨p', ws, rfl, e2, s2⟩ := he
    exact .inr (.inr (.inl ⟨p, p', vs, ws, rfl, rfl, e1, e2, by rw [s1.length, s2.length, ← LN_eq]; exact hz, q.lst l (s1.append s2)⟩))
  · obtain ⟨p, vs, rfl, e1, s1⟩ := (show Den G ι C H (.tup a) x from hd)
    obtain ⟨p', ws, rfl, e2, s2⟩ := (show Den G ι C H (.tup b) y from he)
    refine .inr (.inr (.inr ⟨p, p', vs, ws, rfl, rfl, by rw [o.K]; exact e1.sq, by rw [o.K]; exact e2.sq, by rw [s1.length, s2.length, ← LN_eq]; exact hz, fun z => ?_, fun _ z => ?_, fun _ _ => q.tup l (s1.append s2)⟩))
    · have : a = [] := by
        have e := s1.length
        rw [z] at e
        exact List.eq_nil_of_length_eq_zero e.symm
      subst this
      exact q.here ⟨p', ws, rfl, e2, s2⟩
    · have : b = [] := by
        have e := s2.length
        rw [z] at e
        exact List.eq_nil_of_length_eq_zero e.symm
      subst this
      rw [List.append_nil] at q
      exact q.here ⟨p, vs, rfl, e1, s1⟩
omit o in
theorem opR_sub : OpR X (binaryOp .Sub) (rO G .sub) := by
  refine OpR.imp op_sub fun x y H Q ⟨ι, C, d, e, r, l, hd, he, h, q⟩ => ?_
  cases d <;> cases e <;> first
    | (exact ⟨_, _, hd, he, by cases h; exact q.here rfl⟩)
    | cases h
omit o in
theorem opR_mod : OpR X (binaryOp .Mod) (rO G .mod) := by
  refine OpR.imp op_mod fun x y H Q ⟨ι, C, d, e, r, l, hd, he, h, q⟩ => ?_
  cases d <;> cases e <;> first
    | (obtain ⟨h1, rfl⟩ := ite_some h
       exact ⟨_, _, hd, he, h1, q.here rfl⟩)
    | cases h
omit o in
theorem opR_fdiv : OpR X (binaryOp .FloorDiv) (rO G .fdiv) := by
  refine OpR.imp op_fdiv fun x y H Q ⟨ι, C, d, e, r, l, hd, he, h, q⟩ => ?_
  cases d <;> cases e <;> first
    | (obtain ⟨h1, rfl⟩ := ite_some h
       exact ⟨_, _, hd, he, h1, q.here rfl⟩)
    | cases h
omit o in
theorem opR_pow : OpR X (binaryOp .Pow) (rO G .pow) := by
  refine OpR.imp op_pow fun x y H Q ⟨ι, C, d, e, r, l, hd, he, h, q⟩ => ?_
  cases d <;> cases e <;> first
    | (obtain ⟨h1, rfl⟩ := ite_some h
       exact ⟨_, _, hd, he, ⟨h1.1, by omega, small_lt h1.2.2⟩, q.here rfl⟩)
    | cases h
end
end Mini

/-! Further operations: products, order, is, in, places, slices. -/
namespace Mini
open PySem PySem.Spec PyProof.Rows L2
theorem flat_len {α : Type} (a : List α) : ∀ n : Nat, (List.replicate n a).flatten.length = n * a.length
  | 0 => by simp
  | n + 1 => by rw [List.replicate_succ, List.flatten_cons, List.length_append, flat_len a n, Nat.succ_mul]; omega
theorem foldl_app {α : Type} : ∀ (n : Nat) (a : List α) (acc : Array α), ((List.replicate n a.toArray).foldl (· ++ ·) acc) = acc ++ (List.replicate n a).flatten.toArray
  | 0, a, acc => by simp
  | n + 1, a, acc => by
    rw [List.replicate_succ, List.foldl_cons, foldl_app n a, List.replicate_succ, List.flatten_cons]
    simp
theorem mul_txt {a : List Nat} {k : Int} (h1 : -1000 ≤ k) (h2 : k ≤ 1000) (h3 : a.length ≤ 1000) : Txt.mul (sOf a) k = sOf (List.replicate k.toNat a).flatten := by
  unfold Txt.mul
  by_cases c1 : k < 1
  · rw [if_pos c1]
    have : k.toNat = 0 := by omega
    rw [this]
    rfl
  · rw [if_neg c1]
    by_cases c2 : (k == 1 || (sOf a).length == 0) = true
    · rw [if_pos c2]
      rw [sOf_len] at c2
      rcases Bool.or_eq_true_iff.mp c2 with c | c
      · have : k.toNat = 1 := by
          have := eq_of_beq c
          omega
        rw [this]
        simp
      · have : a = [] := List.eq_nil_of_length_eq_zero (eq_of_beq c)
        subst this
        simp
    · rw [if_neg c2]
      show (⟨_⟩ : Str) = ⟨_⟩
      rw [show (sOf a).cps = a.toArray from rfl, foldl_app]
      simp
theorem mul_ok {a : List Nat} {k : Int} (h1 : -1000 ≤ k) (h2 : k ≤ 1000) (h3 : a.length ≤ 1000) : MulOk (sOf a) k := by
  refine ⟨?_, fun c1 c2 c3 => ?_, fun c1 c2 => ?_⟩
  · simp only [Bool.or_eq_false_iff, decide_eq_false_iff_not]
    omega
  · rw [sOf_len] at c3
    have : (1000 : Int) ≤ (2 ^ 63 - 1) / k := (Int.le_ediv_iff_mul_le (by omega)).mpr (by omega)
    omega
  · rw [sOf_len]
    have : a.length * k.toNat ≤ 1000 * 1000 := Nat.mul_le_mul h3 (by omega)
    unfold Builtin.Str.tooLong
    rw [sizeLine_eq]
    simp only [decide_eq_false_iff_not]
    omega
theorem op_mul_str {X : Cx} : OpR X (binaryOp .Mult) (fun x y H Q => ∃ a k, x = .str (sOf a) ∧ y = .int k ∧ -1000 ≤ k ∧ k ≤ 1000 ∧ a.length ≤ 1000 ∧ Q (.str (sOf (List.replicate k.toNat a).flatten)) H) := by
  intro pins s σ H x y v u Q I rx ry h
  obtain ⟨a, k, rfl, rfl, h1, h2, h3, q⟩ := h
  obtain ⟨t, rfl⟩ := rx
  obtain ⟨t', rfl⟩ := ry
  refine SB.mul (mul_ok h1 h2 h3) fun t' k' => ?_
  rw [mul_txt h1 h2 h3]
  exact ⟨.str (sOf (List.replicate k.toNat a).flatten), H, I.tok k', ⟨_, rfl⟩, q⟩
section
variable {G : Cfg} {X : Cx}
theorem opR_mul (o : OpX G X) : OpR X (binaryOp .Mult) (rO G .mul) := by
  refine OpR.imp (OpR.or op_mul (OpR.or op_mul_str (OpR.or op_rep op_repT))) fun x y H Q ⟨ι, C, d, e, r, l, hd, he, h, q⟩ => ?_
  cases d <;> cases e <;> first
    | (cases h; done)
    | skip
  · obtain ⟨h1, rfl⟩ := ite_some h
    exact .inl ⟨_, _, hd, he, small_mul h1, q.here rfl⟩
  · obtain ⟨h1, rfl⟩ := ite_some h
    exact .inr (.inl ⟨_, _, hd, he, h1.1, h1.2.1, h1.2.2, q.here rfl⟩)
  · rename_i a k
    obtain ⟨⟨h1, h2, h3, h4⟩, rfl⟩ := ite_some h
    obtain ⟨p, vs, rfl, e1, s1⟩ := (show Den G ι C H (.tup a) x from hd)
    refine .inr (.inr (.inr ⟨p, k, vs, rfl, he, by rw [o.K]; exact e1.sq, fun z => ?_, h1, h2, by rw [s1.length]; exact h3, q.tup l (s1.replicate _)⟩))
    have e := s1.length
    rw [z] at e
    exact h4 (List.eq_nil_of_length_eq_zero e.symm)
  · rename_i a k
    obtain ⟨⟨h1, h2, h3⟩, rfl⟩ := ite_some h
    obtain ⟨p, vs, rfl, e1, s1⟩ := hd
    refine .inr (.inr (.inl ⟨p, k, vs, rfl, he, e1, by omega, by omega, ?_, q.lst l (s1.replicate _)⟩))
    rw [s1.length, sizeLine_eq]
    have : a.length * k.toNat ≤ 1000 * 1000 := Nat.mul_le_mul h3 (by omega)
    omega
/-! ### order -/
theorem ltD_cases {d e : D} {b : Bool} (h : ltD d e = some b) : (∃ i j, d = .int i ∧ e = .int j ∧ b = decide (i < j)) ∨ ∃ x y, d = .str x ∧ e = .str y ∧ b = decide (x < y) := by
  cases d <;> cases e <;> first
    | (cases h; done)
    | skip
  · exact .inl ⟨_, _, rfl, rfl, (Option.some.inj h).symm⟩
  · exact .inr ⟨_, _, rfl, rfl, by rw [← slt_eq]; exact (Option.some.inj h).symm⟩
theorem not_lt_le (i j : Int) : (!decide (j < i)) = decide (i ≤ j) := by
  by_cases h : i ≤ j
  · rw [decide_eq_true h, decide_eq_false (by omega)]; rfl
  · rw [decide_eq_false h, decide_eq_true (by omega)]; rfl
theorem opR_lt : OpR X (compareOp .Lt) (rO G .lt) := by
  refine OpR.imp (OpR.or op_lt op_lt_str) fun x y H Q ⟨ι, C, d, e, r, l, hd, he, h, q⟩ => ?_
  obtain ⟨b, hb, rfl⟩ := Option.map_eq_some_iff.mp (show (ltD d e).map D.bl = some r from h)
  rcases ltD_cases hb with ⟨i, j, rfl, rfl, rfl⟩ | ⟨i, j, rfl, rfl, rfl⟩
  · exact .inl ⟨i, j, hd, he, q.here rfl⟩
  · exact .inr ⟨sOf i, sOf j, hd, he, by rw [sOf_cps, sOf_cps]; exact q.here rfl⟩
theorem opR_gt : OpR X (compareOp .Gt) (rO G .gt) := by
  refine OpR.imp (OpR.or op_gt op_gt_str) fun x y H Q ⟨ι, C, d, e, r, l, hd, he, h, q⟩ => ?_
  obtain ⟨b, hb, rfl⟩ := Option.map_eq_some_iff.mp (show (ltD e d).map D.bl = some r from h)
  rcases ltD_cases hb with ⟨i, j, rfl, rfl, rfl⟩ | ⟨i, j, rfl, rfl, rfl⟩
  · exact .inl ⟨j, i, hd, he, q.here rfl⟩
  · exact .inr ⟨sOf j, sOf i, hd, he, by rw [sOf_cps, sOf_cps]; exact q.here rfl⟩
theorem opR_le : OpR X (compareOp .LtE) (rO G .le) := by
  refine OpR.imp (OpR.or op_le op_le_str) fun x y H Q ⟨ι, C, d, e, r, l, hd, he, h, q⟩ => ?_
  obtain ⟨b, hb, rfl⟩ := Option.map_eq_some_iff.mp (show (ltD e d).map (fun k => D.bl (!k)) = some r from h)
  rcases ltD_cases hb with ⟨i, j, rfl, rfl, rfl⟩ | ⟨i, j, rfl, rfl, rfl⟩
  · rw [not_lt_le] at q
    exact .inl ⟨j, i, hd, he, q.here rfl⟩
  · exact .inr ⟨sOf j, sOf i, hd, he, by rw [sOf_cps, sOf_cps]; exact q.here rfl⟩
theorem opR_ge : OpR X (compareOp .GtE) (rO G .ge) := by
  refine OpR.imp (OpR.or op_ge op_ge_str) fun x y H Q ⟨ι, C, d, e, r, l, hd, he, h, q⟩ => ?_
  obtain ⟨b, hb, rfl⟩ := Option.map_eq_some_iff.mp (show (ltD d e).map (fun k => D.bl (!k)) = some r from h)
  rcases ltD_cases hb with ⟨i, j, rfl, rfl, rfl⟩ | ⟨i, j, rfl, rfl, rfl⟩
  · rw [not_lt_le] at q
    exact .inl ⟨i, j, hd, he, q.here rfl⟩
  · exact .inr ⟨sOf i, sOf j, hd, he, by rw [sOf_cps, sOf_cps]; exact q.here rfl⟩
/-! ### is None -/
theorem isNon_eq {ι C : List Addr} {H : Hp} {d : D} {v : V} (h : DenP G ι C H d v) : isNon d = decide (v = .non) := by
  cases d with
  | non => rw [show v = _ from h]; rfl
  | bl b => rw [show v = _ from h]; rfl
  | int b => rw [show v = _ from h]; rfl
  | str b => rw [show v = _ from h]; rfl
  | tup ds => obtain ⟨a, vs, e, _⟩ := (show Den G ι C H (.tup ds) v from h); rw [e]; rfl
  | lst ds => obtain ⟨a, vs, e, _⟩ := h; rw [e]; rfl
  | dct ds => obtain ⟨a, e, _⟩ := h; rw [e]; rfl
  | ref n => obtain ⟨a, _, e⟩ := (show ∃ a, ι[n]? = some a ∧ v = .ref a from h); rw [e]; rfl
  | fn f => rw [show v = _ from h]; rfl
  | frz ds => obtain ⟨a, vs, e, _⟩ := (show Den G ι C H (.frz ds) v from h); rw [e]; rfl
theorem opR_isN : OpR X (compareOp .Is) (rO G .isN) := by
  refine OpR.imp op_isN fun x y H Q ⟨ι, C, d, e, r, l, hd, he, h, q⟩ => ?_
  cases e <;> first
    | (cases h; done)
    | skip
  cases h
  exact ⟨he, by rw [← isNon_eq hd]; exact q.here rfl⟩
theorem opR_notN : OpR X (compareOp .IsNot) (rO G .notN) := by
  refine OpR.imp op_notN fun x y H Q ⟨ι, C, d, e, r, l, hd, he, h, q⟩ => ?_
  cases e <;> first
    | (cases h; done)
    | skip
  cases h
  exact ⟨he, by rw [← isNon_eq hd]; exact q.here rfl⟩
/-! ### places -/
theorem ixN_eq (n : Nat) (i : Int) : ixOf n i = ixN n i := rfl
theorem atD_some {α : Type} {xs : List α} {i : Int} {x : α} (h : atD xs i = some x) : xs.length ≤ LN ∧ ∃ j, ixN xs.length i = some j ∧ xs[j]? = some x := by
  unfold atD at h
  split at h
  · obtain ⟨j, e1, e2⟩ := Option.bind_eq_some_iff.mp h
    exact ⟨by assumption, j, e1, e2⟩
  · cases h
def rSub (G : Cfg) : R2 := fun x y H Q => ∃ ι C d e r, Live C H ∧ DenR G ι C H d x ∧ DenP G ι C H e y ∧ subD d e = some r ∧ Pure G ι C r H Q
theorem IxR.imp {r r' : R2} (h : IxR X r) (i : ∀ x y H Q, r' x y H Q → r x y H Q) : IxR X r' := fun value slice pins s σ H x y v u Q I rx ry q hs => h value slice pins s σ H x y v u Q I rx ry (i _ _ _ _ q) hs
theorem SlR.imp {r r' : V → Option Int → Option Int → Hp → VK → Prop} (h : SlR X r) (i : ∀ x l u H Q, r' x l u H Q → r x l u H Q) : SlR X r' :=
  fun pins s σ H x v vl vu lo hi sl Q I rx hs pl pu q => h pins s σ H x v vl vu lo hi sl Q I rx hs pl pu (i _ _ _ _ _ q)
theorem ixR_sub (o : OpX G X) : IxR X (rSub G) := by
  refine IxR.imp ix_seq fun x y H Q ⟨ι, C, d, e, r, l, hd, he, h, q⟩ => ?_
  cases d <;> cases e <;> first
    | (cases h; done)
    | skip
  · rename_i s i
    obtain ⟨c, hc, rfl⟩ := Option.map_eq_some_iff.mp (show (atD s i).map (fun c => D.str [c]) = some r from h)
    obtain ⟨hz, j, e1, e2⟩ := atD_some hc
    refine .inr (.inr ⟨sOf s, i, c, hd, he, by rw [sOf_len, ← LN_eq]; exact hz, ?_, q.here rfl⟩)
    rw [sOf_cps]
    unfold atI
    rw [e1]
    exact e2
  · rename_i ds i
    obtain ⟨hz, j, e1, e2⟩ := atD_some (show atD ds i = some r from h)
    obtain ⟨p, vs, rfl, t, s1⟩ := (show Den G ι C H (.tup ds) x from hd)
    obtain ⟨v, h1, h2⟩ := s1.get e2
    refine .inr (.inl ⟨p, vs, i, v, rfl, he, by rw [o.K]; exact t.sq, ?_, q.here h2⟩)
    unfold atI
    rw [s1.length, e1]
    exact h1
  · rename_i ds i
    obtain ⟨hz, j, e1, e2⟩ := atD_some (show atD ds i = some r from h)
    obtain ⟨p, vs, rfl, t, s1⟩ := hd
    obtain ⟨v, h1, h2⟩ := s1.get e2
    refine .inl ⟨p, vs, i, v, rfl, he, by rw [o.K]; exact t, ?_, q.here h2⟩
    unfold atI
    rw [s1.length, e1]
    exact h1
/-! ### slices -/
theorem sIx_eq (n d : Nat) (i : Option Int) : sIx n d i = HT.sIx n d i := by cases i <;> rfl
theorem Dens.cut {ι C : List Addr} {H : Hp} {ds : List D} {vs : List V} (h : Dens G ι C H ds vs) (lo hi : Option Int) : Dens G ι C H (cutL ds lo hi) (cutV vs lo hi) := by
  unfold cutL cutV
  rw [h.length, sIx_eq, sIx_eq]
  exact (h.drop _).take _
theorem cutL_all {α : Type} {xs : List α} {lo hi : Option Int} (h1 : HT.sIx xs.length 0 lo = 0) (h2 : HT.sIx xs.length xs.length hi = xs.length) : cutL xs lo hi = xs := by
  unfold cutL
  rw [sIx_eq, sIx_eq, h1, h2]
  simp
theorem cut_str (s : List Nat) (lo hi : Option Int) : cutS (sOf s) lo hi = sOf (cutL s lo hi) := by
  unfold cutS cutL
  rw [sOf_len, sOf_cps, sIx_eq, sIx_eq]
  rfl
def rSlc (G : Cfg) : V → Option Int → Option Int → Hp → VK → Prop := fun x lo hi H Q => ∃ ι C d r, Live C H ∧ DenR G ι C H d x ∧ slcD lo hi d = some r ∧ Pure G ι C r H Q
theorem slR_slc (o : OpX G X) : SlR X (rSlc G) := by
  refine SlR.imp (SlR.or sl_str (SlR.or sl_list sl_tupA)) fun x lo hi H Q ⟨ι, C, d, r, l, hd, h, q⟩ => ?_
  cases d <;> first
    | (cases h; done)
    | skip
  · rename_i s
    obtain ⟨h1, rfl⟩ := ite_some h
    refine .inl ⟨sOf s, hd, by rw [sOf_len, ← LN_eq]; exact h1, ?_⟩
    rw [cut_str]
    exact q.here rfl
  · rename_i ds
    cases h
    obtain ⟨p, vs, rfl, t, s1⟩ := (show Den G ι C H (.tup ds) x from hd)
    refine .inr (.inr ⟨p, vs, rfl, by rw [o.K]; exact t.sq, fun z => ?_, fun _ => q.tup l (s1.cut lo hi)⟩)
    rw [s1.length] at z
    rw [cutL_all z.1 z.2] at q
    exact q.here ⟨p, vs, rfl, t, s1⟩
  · rename_i ds
    cases h
    obtain ⟨p, vs, rfl, t, s1⟩ := hd
    exact .inr (.inl ⟨p, vs, rfl, by rw [o.K]; exact t, q.lst l (s1.cut lo hi)⟩)
/-! ### in -/
theorem txts_some : ∀ {ds : List D} {ss : List (List Nat)}, txts ds = some ss → ds = ss.map .str
  | [], _, h => by cases h; rfl
  | d :: ds, _, h => by
    cases d <;> first
      | (cases h; done)
      | skip
    rename_i s
    obtain ⟨ss, h1, rfl⟩ := Option.map_eq_some_iff.mp (show (txts ds).map (s :: ·) = some _ from h)
    rw [txts_some h1, List.map_cons]
theorem anyV (a : List Nat) : ∀ ss : List (List Nat), inV (.str (sOf a)) (ss.map fun s => .str (sOf s)) = ss.contains a
  | [] => rfl
  | s :: ss => by
    have ih := anyV a ss
    unfold inV at ih ⊢
    rw [List.map_cons, List.any_cons, ih, List.contains_cons]
    congr 1
    have h : eqV (.str (sOf s)) (.str (sOf a)) = decide (sOf s = sOf a) := by simp [eqV]; rfl
    rw [h]
    by_cases e : a = s
    · subst e; simp
    · have : sOf s ≠ sOf a := fun z => e (sOf_inj z).symm
      simp [this, e]
theorem flat_strs (ss : List (List Nat)) : (ss.map fun s => V.str (sOf s)).all flatV = true := by
  rw [List.all_eq_true]
  intro v hv
  obtain ⟨s, _, rfl⟩ := List.mem_map.mp hv
  rfl
theorem mem_cases {d e : D} {b : Bool} (h : memOp d e = some b) : (∃ c s, d = .str [c] ∧ e = .str s ∧ b = s.contains c) ∨ (∃ ys p ps, e = .lst ys ∧ toP d = some p ∧ toPs ys = some ps ∧ SeqAt.shaped p = true ∧ SeqAt.shaped (.list ps) = true ∧ b = ps.any fun z => PyData.eqv z p) ∨
    ∃ (ss : List (List Nat)) (a : List Nat), e = .tup (ss.map .str) ∧ d = .str a ∧ b = ss.contains a := by
  cases e <;> first
    | (cases h; done)
    | skip
  · rename_i s
    cases d <;> first
      | (cases h; done)
      | skip
    rename_i t
    rcases t with _ | ⟨c, _ | ⟨c', t⟩⟩ <;> first
      | (cases h; done)
      | skip
    exact .inl ⟨c, s, rfl, rfl, (Option.some.inj h).symm⟩
  · rename_i ys
    cases d <;> first
      | (cases h; done)
      | skip
    rename_i a
    obtain ⟨ss, h1, rfl⟩ := Option.map_eq_some_iff.mp (show (txts ys).map (fun ss => ss.contains a) = some b from h)
    exact .inr (.inr ⟨ss, a, by rw [txts_some h1], rfl, rfl⟩)
  · rename_i ys
    obtain ⟨p, h1, h⟩ := Option.bind_eq_some_iff.mp (show (toP d).bind _ = some b from h)
    obtain ⟨ps, h2, h⟩ := Option.bind_eq_some_iff.mp h
    obtain ⟨h3, rfl⟩ := ite_some h
    obtain ⟨s1, s2⟩ := Bool.and_eq_true_iff.mp h3
    exact .inr (.inl ⟨ys, p, ps, rfl, h1, h2, s1, s2, rfl⟩)
theorem opR_mem (o : OpX G X) : OpR X (compareOp .In) (rO G .mem) := by
  refine OpR.imp (OpR.or op_in_sign (OpR.or (op_inD (by have := o.un; omega)) op_in_seq)) fun x y H Q ⟨ι, C, d, e, r, l, hd, he, h, q⟩ => ?_
  obtain ⟨b, hb, rfl⟩ := Option.map_eq_some_iff.mp (show (memOp d e).map D.bl = some r from h)
  rcases mem_cases hb with ⟨c, s, rfl, rfl, rfl⟩ | ⟨ys, p, ps, rfl, h1, h2, s1, s2, rfl⟩ | ⟨ss, a, rfl, rfl, rfl⟩
  · refine .inl ⟨c, sOf s, hd, he, ?_⟩
    rw [sOf_cps, ← List.contains_eq_mem]
    exact q.here rfl
  · refine .inr (.inl ⟨p, ps, by rw [o.K]; exact hd.dp h1, by rw [o.K]; exact he.dp (p := .list ps) (by show (toPs ys).map _ = _; rw [h2]; rfl), s1, s2, q.here rfl⟩)
  · obtain ⟨a', vs, rfl, t, s1⟩ := (show Den G ι C H (.tup (ss.map .str)) y from he)
    have hx : x = .str (sOf a) := hd
    subst hx
    rw [s1.txts] at t
    exact .inr (.inr ⟨a', _, rfl, .inr (by rw [o.K]; exact t.sq), rfl, flat_strs ss, by rw [if_neg (by decide), anyV]; exact q.here rfl⟩)
theorem opR_nmem (o : OpX G X) : OpR X (compareOp .NotIn) (rO G .nmem) := by
  refine OpR.imp (OpR.or op_notIn_sign (OpR.or (op_notInD (by have := o.un; omega)) op_notIn_seq)) fun x y H Q ⟨ι, C, d, e, r, l, hd, he, h, q⟩ => ?_
  obtain ⟨b, hb, rfl⟩ := Option.map_eq_some_iff.mp (show (memOp d e).map (fun k => D.bl (!k)) = some r from h)
  rcases mem_cases hb with ⟨c, s, rfl, rfl, rfl⟩ | ⟨ys, p, ps, rfl, h1, h2, s1, s2, rfl⟩ | ⟨ss, a, rfl, rfl, rfl⟩
  · refine .inl ⟨c, sOf s, hd, he, ?_⟩
    rw [sOf_cps, ← List.contains_eq_mem]
    exact q.here rfl
  · refine .inr (.inl ⟨p, ps, by rw [o.K]; exact hd.dp h1, by rw [o.K]; exact he.dp (p := .list ps) (by show (toPs ys).map _ = _; rw [h2]; rfl), s1, s2, q.here rfl⟩)
  · obtain ⟨a', vs, rfl, t, s1⟩ := (show Den G ι C H (.tup (ss.map .str)) y from he)
    have hx : x = .str (sOf a) := hd
    subst hx
    rw [s1.txts] at t
    exact .inr (.inr ⟨a', _, rfl, .inr (by rw [o.K]; exact t.sq), rfl, flat_strs ss, by rw [if_pos rfl, anyV]; exact q.here rfl⟩)
end
end Mini

/-! Built-in functions and methods. -/
namespace Mini
open PySem PySem.Spec PyProof.Rows L2
def DensR (G : Cfg) (ι C : List Addr) (H : Hp) : List D → List V → Prop
  | [], vs => vs = []
  | d :: ds, vs => ∃ v r, vs = v :: r ∧ DenR G ι C H d v ∧ DensR G ι C H ds r
theorem CallR.imp {X : Cx} {f : Value} {r r' : List V → Hp → VK → Prop} (h : CallR X f r) (i : ∀ xs H Q, r' xs H Q → r xs H Q) : CallR X f r' := fun pins s σ H xs us Q I rv q => h pins s σ H xs us Q I rv (i _ _ _ q)
theorem CallR.or {X : Cx} {f : Value} {r r' : List V → Hp → VK → Prop} (h : CallR X f r) (h' : CallR X f r') : CallR X f (fun xs H Q => r xs H Q ∨ r' xs H Q) := fun pins s σ H xs us Q I rv q => by
  rcases q with q | q
  · exact h pins s σ H xs us Q I rv q
  · exact h' pins s σ H xs us Q I rv q
theorem MtR.imp {X : Cx} {id : String} {r r' : V → List V → Hp → VK → Prop} (h : MtR X id r) (i : ∀ x xs H Q, r' x xs H Q → r x xs H Q) : MtR X id r' := fun pins s σ H x xs v us Q I rx rv q => h pins s σ H x xs v us Q I rx rv (i _ _ _ _ q)
/-- a built-in of data -/
def rB (G : Cfg) (b : Bi) : List V → Hp → VK → Prop := fun xs H Q => ∃ ι C ds r, Live C H ∧ DensR G ι C H ds xs ∧ biD b ds = some r ∧ Pure G ι C r H Q
section
variable {G : Cfg} {ι C : List Addr} {H : Hp}
theorem DensR.one {d : D} {xs : List V} (h : DensR G ι C H [d] xs) : ∃ v, xs = [v] ∧ DenR G ι C H d v := by
  obtain ⟨v, r, rfl, h, t⟩ := h
  rw [show r = [] from t]
  exact ⟨v, rfl, h⟩
theorem DensR.two {d e : D} {xs : List V} (h : DensR G ι C H [d, e] xs) : ∃ v w, xs = [v, w] ∧ DenR G ι C H d v ∧ DenR G ι C H e w := by
  obtain ⟨v, r, rfl, h, t⟩ := h
  obtain ⟨w, rfl, h2⟩ := DensR.one t
  exact ⟨v, w, rfl, h, h2⟩
theorem DenR.int {i : Int} {v : V} (h : DenR G ι C H (.int i) v) : v = .int i := h
theorem DenR.str {i : List Nat} {v : V} (h : DenR G ι C H (.str i) v) : v = .str (sOf i) := h
theorem DenR.bl {i : Bool} {v : V} (h : DenR G ι C H (.bl i) v) : v = .bl i := h
theorem DenR.tup {ds : List D} {v : V} (h : DenR G ι C H (.tup ds) v) : ∃ a vs, v = .ref a ∧ TupAt G C H a vs ∧ Dens G ι C H ds vs := h
theorem DenR.lst {ds : List D} {v : V} (h : DenR G ι C H (.lst ds) v) : ∃ a vs, v = .ref a ∧ SqL G.K H a vs ∧ Dens G ι C H ds vs := h
theorem allBl_some : ∀ {ds : List D} {b : Bool}, allBl ds = some b → ∃ bs : List Bool, ds = bs.map .bl ∧ b = bs.all id
  | [], _, h => by cases h; exact ⟨[], rfl, rfl⟩
  | d :: ds, b, h => by
    cases d <;> first
      | (cases h; done)
      | skip
    rename_i k
    cases k with
    | true =>
      obtain ⟨bs, e1, e2⟩ := allBl_some (show allBl ds = some b from h)
      exact ⟨true :: bs, by rw [e1]; rfl, by rw [e2]; rfl⟩
    | false =>
      obtain ⟨h1, rfl⟩ := ite_some h
      have : ∀ l : List D, (l.all fun | .bl _ => true | _ => false) = true → ∃ bs : List Bool, l = bs.map .bl := by
        intro l
        induction l with
        | nil => intro _; exact ⟨[], rfl⟩
        | cons x l ih =>
          intro hl
          rw [List.all_cons, Bool.and_eq_true] at hl
          obtain ⟨bs, e⟩ := ih hl.2
          cases x <;> first
            | (cases hl.1; done)
            | skip
          rename_i k
          exact ⟨k :: bs, by rw [e]; rfl⟩
      obtain ⟨bs, e⟩ := this ds h1
      exact ⟨false :: bs, by rw [e]; rfl, rfl⟩
theorem anyBl_some : ∀ {ds : List D} {b : Bool}, anyBl ds = some b → ∃ bs : List Bool, ds = bs.map .bl ∧ b = bs.any id
  | [], _, h => by cases h; exact ⟨[], rfl, rfl⟩
  | d :: ds, b, h => by
    cases d <;> first
      | (cases h; done)
      | skip
    rename_i k
    cases k with
    | false =>
      obtain ⟨bs, e1, e2⟩ := anyBl_some (show anyBl ds = some b from h)
      exact ⟨false :: bs, by rw [e1]; rfl, by rw [e2]; rfl⟩
    | true =>
      obtain ⟨h1, rfl⟩ := ite_some h
      have : ∀ l : List D, (l.all fun | .bl _ => true | _ => false) = true → ∃ bs : List Bool, l = bs.map .bl := by
        intro l
        induction l with
        | nil => intro _; exact ⟨[], rfl⟩
        | cons x l ih =>
          intro hl
          rw [List.all_cons, Bool.and_eq_true] at hl
          obtain ⟨bs, e⟩ := ih hl.2
          cases x <;> first
            | (cases hl.1; done)
            | skip
          rename_i k
          exact ⟨k :: bs, by rw [e]; rfl⟩
      obtain ⟨bs, e⟩ := this ds h1
      exact ⟨true :: bs, by rw [e]; rfl, rfl⟩
end
/-! ### texts of numbers -/
theorem strInt_eq (i : Int) : (toString i : Str) = sOf (strInt i) := by
  have key : ∀ n : Nat, (Str.ofString (toString ((n : Nat) : Int))) = sOf (figs n) := fun n => by
    have e := PySem.W.KIN.signs_num n
    have : (Str.ofString (toString ((n : Nat) : Int))).cps.toList = figs n := e
    show _ = (⟨(figs n).toArray⟩ : Str)
    rw [← this]
  cases i with
  | ofNat n =>
    have h : strInt (Int.ofNat n) = figs n := by
      unfold strInt
      rw [if_neg (by simp)]
      rfl
    rw [h]
    exact key n
  | negSucc n =>
    have h : strInt (Int.negSucc n) = 45 :: figs (n + 1) := by
      unfold strInt
      rw [if_pos (by simp)]
      rfl
    rw [h]
    have e1 : toString (Int.negSucc n) = "-" ++ toString (n + 1) := rfl
    show Str.ofString (toString (Int.negSucc n)) = _
    rw [e1]
    have e2 : (Str.ofString ("-" ++ toString (n + 1))).cps.toList = 45 :: figs (n + 1) := by
      have k1 := key (n + 1)
      have k2 : Str.ofString (toString (((n + 1 : Nat) : Nat) : Int)) = Str.ofString (toString (n + 1)) := rfl
      rw [k2] at k1
      rw [show Str.ofString ("-" ++ toString (n + 1)) = (Str.ofString "-" ++ Str.ofString (toString (n + 1)) : Str) from by
        show (⟨_⟩ : Str) = ⟨_⟩ ++ ⟨_⟩
        rw [cpsOfBytes_string, cpsOfBytes_string, cpsOfBytes_string, String.toList_append, List.map_append]
        show _ = (⟨_ ++ _⟩ : Str)
        simp]
      rw [k1, show Str.ofString "-" = sOf [45] by decide +kernel, sOf_app, sOf_cps]
      rfl
    show _ = (⟨(45 :: figs (n + 1)).toArray⟩ : Str)
    rw [← e2]
theorem digitsVal_num : ∀ (s : List Nat) (acc : Nat), (∀ c ∈ s, 48 ≤ c) → ((s.foldl (fun acc c => acc * 10 + (c - 48)) acc : Nat) : Int) = s.foldl (fun (n : Int) (c : Nat) => 10 * n + ((c : Int) - 48)) (acc : Int)
  | [], _, _ => rfl
  | c :: s, acc, h => by
    rw [List.foldl_cons, List.foldl_cons, digitsVal_num s _ fun d hd => h d (List.mem_cons_of_mem _ hd)]
    congr 1
    have := h c (List.mem_cons_self ..)
    omega
theorem intStr_some {s : List Nat} {n : Int} (h : intStr s = some n) : PySem.intText? (sOf s) = some n ∧ (sOf s).length ≤ 640 := by
  obtain ⟨⟨h1, h2, h3⟩, rfl⟩ := ite_some h
  have hd : PySem.NumText.AllDigits s := fun c hc => by
    have := List.all_eq_true.mp h3 c hc
    simpa [isFig] using this
  have e := PySem.intText_digits (x := sOf s) (by rw [sOf_cps]; exact hd) (by rw [sOf_cps]; intro z; rw [z] at h1; simp at h1) (by rw [sOf_len]; omega)
  rw [sOf_cps] at e
  refine ⟨?_, by rw [sOf_len]; omega⟩
  rw [e]
  unfold PySem.NumText.digitsVal numOf
  rw [digitsVal_num s 0 fun c hc => (hd c hc).1]
  rfl
section
variable {G : Cfg} {X : Cx}
theorem cB_len (o : OpX G X) : CallR X (.builtin "len") (rB G .len) := by
  refine CallR.imp call_len fun xs H Q ⟨ι, C, ds, r, l, hd, h, q⟩ => ?_
  rcases ds with _ | ⟨d, _ | ⟨e, t⟩⟩
  · cases h
  · obtain ⟨v, rfl, hv⟩ := hd.one
    cases d <;> first
      | (cases h; done)
      | skip
    · obtain ⟨h1, rfl⟩ := ite_some h
      rw [hv.str]
      exact ⟨_, _, rfl, ⟨by rw [sOf_len, ← LN_eq]; exact h1, (sOf_len _).symm⟩, q.here rfl⟩
    · cases h
      obtain ⟨a, vs, rfl, t, s⟩ := hv.tup
      exact ⟨_, _, rfl, .inr ⟨vs, by rw [o.K]; exact t.sq, s.length.symm⟩, q.here rfl⟩
    · cases h
      obtain ⟨a, vs, rfl, t, s⟩ := hv.lst
      exact ⟨_, _, rfl, .inl ⟨vs, by rw [o.K]; exact t, s.length.symm⟩, q.here rfl⟩
  · cases d <;> cases h
theorem cB_str : CallR X (.type "str") (rB G .str) := by
  refine CallR.imp call_str_int fun xs H Q ⟨ι, C, ds, r, l, hd, h, q⟩ => ?_
  rcases ds with _ | ⟨d, _ | ⟨e, t⟩⟩
  · cases h
  · obtain ⟨v, rfl, hv⟩ := hd.one
    cases d <;> first
      | (cases h; done)
      | skip
    rename_i i
    obtain ⟨h1, rfl⟩ := ite_some h
    refine ⟨i, by rw [hv.int], ?_, ?_⟩
    · rcases Nat.eq_zero_or_pos i.natAbs with z | z
      · rw [z]; decide
      · have := (Nat.log2_lt (by omega)).mpr h1
        omega
    · show Q (.str (toString i : Str)) H
      rw [strInt_eq]
      exact q.here rfl
  · cases d <;> cases h
theorem cB_int : CallR X (.type "int") (rB G .int) := by
  refine CallR.imp (CallR.or call_int1 call_int_str) fun xs H Q ⟨ι, C, ds, r, l, hd, h, q⟩ => ?_
  rcases ds with _ | ⟨d, _ | ⟨e, t⟩⟩
  · cases h
  · obtain ⟨v, rfl, hv⟩ := hd.one
    cases d <;> first
      | (cases h; done)
      | skip
    · cases h
      rw [hv.bl]
      exact .inl (.inr ⟨_, rfl, q.here rfl⟩)
    · rename_i s
      obtain ⟨n, h1, rfl⟩ := Option.map_eq_some_iff.mp (show (intStr s).map D.int = some r from h)
      obtain ⟨e1, e2⟩ := intStr_some h1
      rw [hv.str]
      exact .inr ⟨_, n, rfl, e1, e2, q.here rfl⟩
  · cases d <;> cases h
theorem cB_tuple (o : OpX G X) : CallR X (.type "tuple") (rB G .tuple) := by
  refine CallR.imp call_tuple_of fun xs H Q ⟨ι, C, ds, r, l, hd, h, q⟩ => ?_
  rcases ds with _ | ⟨d, _ | ⟨e, t⟩⟩
  · cases h
  · obtain ⟨v, rfl, hv⟩ := hd.one
    cases d <;> first
      | (cases h; done)
      | skip
    · cases h
      obtain ⟨a, vs, rfl, t, s⟩ := hv.tup
      exact ⟨a, vs, rfl, .inr ⟨by rw [o.K]; exact t.sq, q.here ⟨a, vs, rfl, t, s⟩⟩⟩
    · cases h
      obtain ⟨a, vs, rfl, t, s⟩ := hv.lst
      exact ⟨a, vs, rfl, .inl ⟨by rw [o.K]; exact t, q.tup l s⟩⟩
  · cases d <;> cases h
theorem cB_list (o : OpX G X) : CallR X (.type "list") (rB G .list) := by
  refine CallR.imp call_list_of fun xs H Q ⟨ι, C, ds, r, l, hd, h, q⟩ => ?_
  rcases ds with _ | ⟨d, _ | ⟨e, t⟩⟩
  · cases h
  · obtain ⟨v, rfl, hv⟩ := hd.one
    cases d <;> first
      | (cases h; done)
      | skip
    · cases h
      obtain ⟨a, vs, rfl, t, s⟩ := hv.tup
      exact ⟨a, vs, rfl, .inr (by rw [o.K]; exact t.sq), q.lst l s⟩
    · cases h
      obtain ⟨a, vs, rfl, t, s⟩ := hv.lst
      exact ⟨a, vs, rfl, .inl (by rw [o.K]; exact t), q.lst l s⟩
  · cases d <;> cases h
theorem cB_all (o : OpX G X) (hc : X.calm = true) : CallR X (.builtin "all") (rB G .all) := by
  refine CallR.imp (cr_all hc) fun xs H Q ⟨ι, C, ds, r, l, hd, h, q⟩ => ?_
  rcases ds with _ | ⟨d, _ | ⟨e, t⟩⟩
  · cases h
  · obtain ⟨v, rfl, hv⟩ := hd.one
    cases d <;> first
      | (cases h; done)
      | skip
    rename_i ds
    obtain ⟨b, h1, rfl⟩ := Option.map_eq_some_iff.mp (show (allBl ds).map D.bl = some r from h)
    obtain ⟨bs, rfl, rfl⟩ := allBl_some h1
    obtain ⟨a, vs, rfl, t, s⟩ := hv.lst
    exact ⟨a, bs, rfl, by rw [o.K, ← s.bls]; exact t, q.here rfl⟩
  · cases d <;> cases h
theorem cB_any (o : OpX G X) (hc : X.calm = true) : CallR X (.builtin "any") (rB G .any) := by
  refine CallR.imp (cr_any hc) fun xs H Q ⟨ι, C, ds, r, l, hd, h, q⟩ => ?_
  rcases ds with _ | ⟨d, _ | ⟨e, t⟩⟩
  · cases h
  · obtain ⟨v, rfl, hv⟩ := hd.one
    cases d <;> first
      | (cases h; done)
      | skip
    rename_i ds
    obtain ⟨b, h1, rfl⟩ := Option.map_eq_some_iff.mp (show (anyBl ds).map D.bl = some r from h)
    obtain ⟨bs, rfl, rfl⟩ := anyBl_some h1
    obtain ⟨a, vs, rfl, t, s⟩ := hv.lst
    exact ⟨a, bs, rfl, by rw [o.K, ← s.bls]; exact t, q.here rfl⟩
  · cases d <;> cases h
theorem cB_max2 (hc : X.calm = true) : CallR X (.builtin "max") (rB G .max2) := by
  refine CallR.imp (call_max2 hc) fun xs H Q ⟨ι, C, ds, r, l, hd, h, q⟩ => ?_
  rcases ds with _ | ⟨d, _ | ⟨e, _ | ⟨f, t⟩⟩⟩
  · cases h
  · cases d <;> cases h
  · obtain ⟨v, w, rfl, hv, hw⟩ := hd.two
    cases d <;> cases e <;> first
      | (cases h; done)
      | skip
    cases h
    rw [hv.int, hw.int]
    exact ⟨_, _, rfl, q.here rfl⟩
  · cases d <;> cases e <;> cases h
theorem cB_min2 (hc : X.calm = true) : CallR X (.builtin "min") (rB G .min2) := by
  refine CallR.imp (call_min2 hc) fun xs H Q ⟨ι, C, ds, r, l, hd, h, q⟩ => ?_
  rcases ds with _ | ⟨d, _ | ⟨e, _ | ⟨f, t⟩⟩⟩
  · cases h
  · cases d <;> cases h
  · obtain ⟨v, w, rfl, hv, hw⟩ := hd.two
    cases d <;> cases e <;> first
      | (cases h; done)
      | skip
    cases h
    rw [hv.int, hw.int]
    exact ⟨_, _, rfl, q.here rfl⟩
  · cases d <;> cases e <;> cases h
theorem cB_abs : CallR X (.builtin "abs") (rB G .abs) := by
  refine CallR.imp call_abs fun xs H Q ⟨ι, C, ds, r, l, hd, h, q⟩ => ?_
  rcases ds with _ | ⟨d, _ | ⟨e, t⟩⟩
  · cases h
  · obtain ⟨v, rfl, hv⟩ := hd.one
    cases d <;> first
      | (cases h; done)
      | skip
    cases h
    rw [hv.int]
    exact ⟨_, rfl, q.here rfl⟩
  · cases d <;> cases h
/-! ### methods -/
def rM (G : Cfg) (b : Bi) : V → List V → Hp → VK → Prop := fun x xs H Q => ∃ ι C d ds r, Live C H ∧ DenR G ι C H d x ∧ DensR G ι C H ds xs ∧ biD b (d :: ds) = some r ∧ Pure G ι C r H Q
theorem join_eq (sep : List Nat) : ∀ ss : List (List Nat), Txt.join (sOf sep) (ss.map sOf) = sOf (joinL sep ss) := fun ss => by
  have key : ∀ ss : List (List Nat), Str.join (sOf sep) (ss.map sOf) = sOf (joinL sep ss) := by
    intro ss
    induction ss with
    | nil => rfl
    | cons x r ih =>
      cases r with
      | nil => rfl
      | cons y r =>
        show sOf x ++ sOf sep ++ Str.join (sOf sep) ((y :: r).map sOf) = sOf (x ++ sep ++ joinL sep (y :: r))
        rw [ih, sOf_app, sOf_app]
  show Builtin.Str.glued _ _ = _
  rw [StrLaws.glued_eq_join]
  exact key ss
theorem mB_join (o : OpX G X) : MtR X "str.join" (rM G .join) := by
  refine MtR.imp mt_join fun x xs H Q ⟨ι, C, d, ds, r, l, h0, hd, h, q⟩ => ?_
  rcases ds with _ | ⟨e, _ | ⟨f, t⟩⟩
  · cases d <;> cases h
  · obtain ⟨v, rfl, hv⟩ := hd.one
    cases d <;> cases e <;> first
      | (cases h; done)
      | skip
    rename_i sep ds
    obtain ⟨ss, h1, h2⟩ := Option.bind_eq_some_iff.mp (show (txts ds).bind _ = some r from h)
    obtain ⟨h3, rfl⟩ := ite_some h2
    rw [txts_some h1] at hv
    obtain ⟨a, vs, rfl, t, s⟩ := hv.lst
    rw [h0.str]
    refine ⟨_, a, ss.map sOf, rfl, rfl, .inl ?_, ?_, ?_⟩
    · rw [o.K, List.map_map]
      rw [s.txts] at t
      exact t
    · rw [List.map_map, List.length_map, sOf_len]
      rw [show (fun z : Str => z.length) ∘ sOf = List.length from funext fun z => sOf_len z]
      exact h3
    · rw [join_eq]
      exact q.here rfl
  · cases d <;> cases e <;> cases h
theorem mB_find : MtR X "str.find" (rM G .find) := by
  refine MtR.imp mt_find fun x xs H Q ⟨ι, C, d, ds, r, l, h0, hd, h, q⟩ => ?_
  rcases ds with _ | ⟨e, _ | ⟨f, t⟩⟩
  · cases d <;> cases h
  · obtain ⟨v, rfl, hv⟩ := hd.one
    cases d <;> cases e <;> first
      | (cases h; done)
      | skip
    cases h
    rw [h0.str, hv.str]
    exact ⟨_, _, rfl, rfl, q.here rfl⟩
  · cases d <;> cases e <;> cases h
/-! ### isinstance -/
def tyN : Ty → String
  | .str => "str"
  | .int => "int"
  | .bool => "bool"
  | .tuple => "tuple"
  | .list => "list"
  | .dict => "dict"
theorem cB_isi (o : OpX G X) (t : Ty) : CallR X (.builtin "isinstance") (fun xs H Q => ∃ ι C d v b, xs = [v, .ty (tyN t)] ∧ DenR G ι C H d v ∧ isTy t d = some b ∧ Q (.bl b) H) := by
  refine CallR.imp call_isi fun xs H Q ⟨ι, C, d, v, b, e, hd, h, q⟩ => ?_
  subst e
  cases d with
  | non => cases h; rw [show v = _ from hd]; exact ⟨_, _, _, _, _, rfl, .ty _, .base .non, kit_ty (by cases t <;> decide +kernel), q⟩
  | bl k => cases h; rw [show v = _ from hd]; exact ⟨_, _, _, _, _, rfl, .ty _, .base (.bl k), kit_ty (by cases t <;> decide +kernel), q⟩
  | int k => cases h; rw [show v = _ from hd]; exact ⟨_, _, _, _, _, rfl, .ty _, .base (.int k), kit_ty (by cases t <;> decide +kernel), q⟩
  | str k => cases h; rw [show v = _ from hd]; exact ⟨_, _, _, _, _, rfl, .ty _, .base (.str _), kit_ty (by cases t <;> decide +kernel), q⟩
  | tup ds =>
    cases h
    obtain ⟨a, vs, rfl, z, s⟩ := hd.tup
    rcases z with ⟨_, z⟩ | ⟨ob, its, n, h1, h2, _⟩
    · exact ⟨_, _, _, _, _, rfl, .ty _, .base (.tup z), kit_ty (by cases t <;> decide +kernel), q⟩
    · exact ⟨_, _, _, _, _, rfl, .ty _, .kTuple (by rw [o.K]; exact h1) h2, kit_ty (by cases t <;> decide +kernel), q⟩
  | lst ds =>
    cases h
    obtain ⟨a, vs, rfl, z, s⟩ := hd.lst
    rcases z with (z | ⟨ob, z⟩) | ⟨ob, its, n, h1, h2, _⟩
    · exact ⟨_, _, _, _, _, rfl, .ty _, .base (.lst z), kit_ty (by cases t <;> decide +kernel), q⟩
    · exact ⟨_, _, _, _, _, rfl, .ty _, .base (.frz z), kit_ty (by cases t <;> decide +kernel), q⟩
    · exact ⟨_, _, _, _, _, rfl, .ty _, .kList (by rw [o.K]; exact h1) h2, kit_ty (by cases t <;> decide +kernel), q⟩
  | dct ds =>
    cases h
    obtain ⟨a, rfl, ⟨ws, z, s⟩ | ⟨ws, z, s⟩⟩ := (show ∃ a, v = .ref a ∧ ((∃ ws, H a = some (.dK ws) ∧ DensK G ι C H ds ws) ∨ ∃ ws, H a = some (.dT ws) ∧ DensT G ι C H ds ws) from hd)
    · exact ⟨_, _, _, _, _, rfl, .ty _, .base (.dK z), kit_ty (by cases t <;> decide +kernel), q⟩
    · exact ⟨_, _, _, _, _, rfl, .ty _, .base (.dT z), kit_ty (by cases t <;> decide +kernel), q⟩
  | ref n => cases h
  | fn n => cases h
  | frz n => cases h
end
end Mini

/-! Expressions: which text says which expression of the small language, and that its run is the model's. -/
namespace Mini
open PySem PySem.Spec PyProof.Rows L2
/-! ### names of the text -/
structure Tb where
  fns : List (Str × Nat)
  np : Nat → Nat
  dfl : Nat → List D
  cls : List (Str × Nat)
  con : List (Str × D)
  fre : List Str
  sf : SF
inductive BiN : Str → Bi → Prop where
  | len : BiN "len" .len
  | str : BiN "str" .str
  | int : BiN "int" .int
  | tuple : BiN "tuple" .tuple
  | list : BiN "list" .list
  | all : BiN "all" .all
  | any : BiN "any" .any
  | max2 : BiN "max" .max2
  | min2 : BiN "min" .min2
  | abs : BiN "abs" .abs
inductive MtN : Str → Bi → Prop where
  | join : MtN "join" .join
  | find : MtN "find" .find
inductive OpN : Operator → Op → Prop where
  | add : OpN .Add .add
  | sub : OpN .Sub .sub
  | mul : OpN .Mult .mul
  | fdiv : OpN .FloorDiv .fdiv
  | mod : OpN .Mod .mod
  | pow : OpN .Pow .pow
inductive CmN : CmpOp → Op → Prop where
  | eq : CmN .Eq .eq
  | ne : CmN .NotEq .ne
  | lt : CmN .Lt .lt
  | le : CmN .LtE .le
  | gt : CmN .Gt .gt
  | ge : CmN .GtE .ge
  | isN : CmN .Is .isN
  | notN : CmN .IsNot .notN
  | mem : CmN .In .mem
  | nmem : CmN .NotIn .nmem
inductive TyN : Str → Ty → Prop where
  | str : TyN "str" .str
  | int : TyN "int" .int
  | bool : TyN "bool" .bool
  | tuple : TyN "tuple" .tuple
  | list : TyN "list" .list
  | dict : TyN "dict" .dict
inductive Sy where
  | e (x : Expr)
  | b (x : Expr)
  | es (xs : List Expr)
  | bs (xs : List Expr)
  | o (x : Option Expr)
  | it (tg x : Expr)
inductive Tm where
  | e (m : E)
  | es (ms : List E)
  | o (m : Option E)
  | it (m : It)
/-- a target: names in their slots -/
inductive CT (N : List Str) (sc : Scope) : Expr → Tg → Prop where
  | nm {x : Str} {i : Nat} {p : Pos} : N[i]? = some x → Loc sc x → CT N sc (.Name x p) (.nm i)
  | tp {xs : List (Str × Pos)} {is : List Nat} {k : Nat} {p : Pos} : is.length = xs.length → (∀ (j : Nat) (i : Nat) (x : Str × Pos), is[j]? = some i → xs[j]? = some x → N[i]? = some x.1 ∧ Loc sc x.1) →
      CT N sc (.Tuple (xs.map fun x => .Name x.1 x.2) k p) (.tp is)
def Tg.slots : Tg → List Nat
  | .nm i => [i]
  | .tp is => is
def glb (sc : Scope) (x : Str) : Prop := sc.names.lookup x = some .globalImplicit
/-- names that the model has for itself -/
def plainN (x : Str) : Bool := !(x == "__debug__") && (!(x == "__classdict__") && !(x == "__name__"))
def simpleIx : Expr → Bool
  | .Slice _ _ _ _ => false
  | _ => true
inductive CE (T : Tb) (N : List Str) : Bool → Scope → Sy → Tm → Prop where
  | non {c sc k p} : CE T N c sc (.e (.Constant .none k p)) (.e (.lit .non))
  | bl {c sc k p b} : CE T N c sc (.e (.Constant (.bool b) k p)) (.e (.lit (.bl b)))
  | int {c sc k p i} : CE T N c sc (.e (.Constant (.int i) k p)) (.e (.lit (.int i)))
  | str {c sc k p s l} : s = sOf l → CE T N c sc (.e (.Constant (.str s) k p)) (.e (.lit (.str l)))
  | var {c sc x i p} : N[i]? = some x → Vis sc x → plainN x = true → CE T N c sc (.e (.Name x p)) (.e (.var i))
  | glob {c sc x d p} : T.con.lookup x = some d → glb sc x → plainN x = true → CE T N c sc (.e (.Name x p)) (.e (.glob d))
  | tup {c sc es ms k p} : ms.length ≤ 1000 → CE T N c sc (.es es) (.es ms) → CE T N c sc (.e (.Tuple es k p)) (.e (.tup ms))
  | lst {c sc es ms p} : ms.length ≤ 1000 → CE T N c sc (.es es) (.es ms) → CE T N c sc (.e (.List es p)) (.e (.lst ms))
  | op {c sc o o' a b ma mb p} : OpN o o' → CE T N c sc (.b a) (.e ma) → CE T N c sc (.b b) (.e mb) → CE T N c sc (.e (.BinOp a o b p)) (.e (.op o' ma mb))
  | cmp {c sc o o' a b ma mb p} : CmN o o' → behindInMarks o b = false → CE T N c sc (.b a) (.e ma) → CE T N c sc (.b b) (.e mb) → CE T N c sc (.e (.Compare a [o] [b] p)) (.e (.op o' ma mb))
  | chain {c sc o o' u u' a b d ma mb md p} : CmN o u → CmN o' u' → u ≠ .mem → u ≠ .nmem → u' ≠ .mem → u' ≠ .nmem → CE T N c sc (.b a) (.e ma) → CE T N c sc (.b b) (.e mb) → CE T N c sc (.b d) (.e md) →
      CE T N c sc (.e (.Compare a [o, o'] [b, d] p)) (.e (.chain u u' ma mb md))
  | neg {c sc a ma p} : CE T N c sc (.e a) (.e ma) → CE T N c sc (.e (.UnaryOp .USub a p)) (.e (.neg ma))
  | not {c sc a ma p} : CE T N c sc (.e a) (.e ma) → CE T N c sc (.e (.UnaryOp .Not a p)) (.e (.not ma))
  | and1 {c sc a ma p} : CE T N c sc (.e a) (.e ma) → CE T N c sc (.e (.BoolOp .And [a] p)) (.e ma)
  | or1 {c sc a ma p} : CE T N c sc (.e a) (.e ma) → CE T N c sc (.e (.BoolOp .Or [a] p)) (.e ma)
  | and {c sc a b r ma mb p} : CE T N c sc (.e a) (.e ma) → CE T N c sc (.e (.BoolOp .And (b :: r) p)) (.e mb) → CE T N c sc (.e (.BoolOp .And (a :: b :: r) p)) (.e (.and ma mb))
  | or {c sc a b r ma mb p} : CE T N c sc (.e a) (.e ma) → CE T N c sc (.e (.BoolOp .Or (b :: r) p)) (.e mb) → CE T N c sc (.e (.BoolOp .Or (a :: b :: r) p)) (.e (.or ma mb))
  | ife {c sc t a b mt ma mb p} : CE T N c sc (.e t) (.e mt) → CE T N c sc (.e a) (.e ma) → CE T N c sc (.e b) (.e mb) → CE T N c sc (.e (.IfExp t a b p)) (.e (.ife mt ma mb))
  | sub {c sc a i ma mi p} : simpleIx i = true → CE T N c sc (.b a) (.e ma) → CE T N c sc (.e i) (.e mi) → CE T N c sc (.e (.Subscript a i p)) (.e (.sub ma mi))
  | slc {c sc a lo hi ma ml mh p q} : CE T N c sc (.b a) (.e ma) → CE T N c sc (.o lo) (.o ml) → CE T N c sc (.o hi) (.o mh) → CE T N c sc (.e (.Subscript a (.Slice lo hi none q) p)) (.e (.slc ma ml mh))
  | bi {c sc x b e es ms p q} : c = true → BiN x b → x ∈ T.fre → glb sc x → CE T N c sc (.bs (e :: es)) (.es ms) → CE T N c sc (.e (.Call (.Name x q) (e :: es) [] p)) (.e (.bi b ms))
  | mt {c sc x b o mo e es ms p q} : MtN x b → (q.endLine == p.line) = true → es.length < 10 → CE T N c sc (.b o) (.e mo) → CE T N c sc (.bs (e :: es)) (.es ms) → CE T N c sc (.e (.Call (.Attribute o x q) (e :: es) [] p)) (.e (.mt b mo ms))
  | isi {c sc a x t ma p q r} : TyN x t → x ∈ T.fre → glb sc x → ("isinstance" : Str) ∈ T.fre → glb sc "isinstance" → CE T N c sc (.b a) (.e ma) →
      CE T N c sc (.e (.Call (.Name "isinstance" q) [a, .Name x r] [] p)) (.e (.isi ma t))
  | call {c sc x f e es ms p q ds} : c = true → T.fns.lookup x = some f → glb sc x → plainN x = true → ds = (T.dfl f).drop ((T.dfl f).length - ds.length) → ds.length ≤ (T.dfl f).length → ms.length + ds.length = T.np f →
      CE T N c sc (.es (e :: es)) (.es ms) → CE T N c sc (.e (.Call (.Name x q) (e :: es) [] p)) (.e (.call f ms ds))
  | lc {sc scope elt tg iter m t mi p own} : CT N scope tg t → own.map (·.2) = t.slots → BlkOk N sc scope own → CE T N true sc (.it tg iter) (.it mi) → CE T N true (relS scope sc) (.e elt) (.e m) →
      CE T N true sc (.e (.ListComp elt [⟨tg, iter, [], 0⟩] scope p)) (.e (.lc m t mi none))
  | lcIf {sc scope elt tg iter f m t mi mf p own} : CT N scope tg t → own.map (·.2) = t.slots → BlkOk N sc scope own → CE T N true sc (.it tg iter) (.it mi) → CE T N true (relS scope sc) (.e elt) (.e m) → CE T N true (relS scope sc) (.e f) (.e mf) →
      CE T N true sc (.e (.ListComp elt [⟨tg, iter, [f], 0⟩] scope p)) (.e (.lc m t mi (some mf)))
  | isx {sc x y i k p q r s} : N[i]? = some x → Vis sc x → plainN x = true → ("isinstance" : Str) ∈ T.fre → glb sc "isinstance" → T.cls.lookup y = some k → glb sc y → plainN y = true →
      CE T N false sc (.e (.Call (.Name "isinstance" q) [.Name x r, .Name y s] [] p)) (.e (.isx i (some k)))
  | isv {sc x i p q r s} : N[i]? = some x → Vis sc x → plainN x = true → ("isinstance" : Str) ∈ T.fre → glb sc "isinstance" → ("ValueError" : Str) ∈ T.fre → glb sc "ValueError" →
      CE T N false sc (.e (.Call (.Name "isinstance" q) [.Name x r, .Name "ValueError" s] [] p)) (.e (.isx i none))
  | actx {sc x i p q} : N[i]? = some x → Vis sc x → plainN x = true → CE T N false sc (.e (.Attribute (.Name x q) "act" p)) (.e (.actx i))
  -- looked at
  | of {c sc a m} : CE T N c sc (.e a) (.e m) → CE T N c sc (.b a) (.e m)
  | bvar {c sc x i p} : N[i]? = some x → Vis sc x → plainN x = true → CE T N c sc (.b (.Name x p)) (.e (.bvar i))
  -- lists of them
  | nil {c sc} : CE T N c sc (.es []) (.es [])
  | cons {c sc e es m ms} : CE T N c sc (.e e) (.e m) → CE T N c sc (.es es) (.es ms) → CE T N c sc (.es (e :: es)) (.es (m :: ms))
  | bnil {c sc} : CE T N c sc (.bs []) (.es [])
  | bcons {c sc e es m ms} : CE T N c sc (.b e) (.e m) → CE T N c sc (.bs es) (.es ms) → CE T N c sc (.bs (e :: es)) (.es (m :: ms))
  | onone {c sc} : CE T N c sc (.o none) (.o none)
  | osome {c sc e m} : CE T N c sc (.e e) (.e m) → CE T N c sc (.o (some e)) (.o (some m))
  -- what is walked
  | iof {sc tg e m} : CE T N true sc (.e e) (.e m) → CE T N true sc (.it tg e) (.it (.of m))
  | irange {sc tg e m p q} : ("range" : Str) ∈ T.fre → glb sc "range" → CE T N true sc (.e e) (.e m) → CE T N true sc (.it tg (.Call (.Name "range" q) [e] [] p)) (.it (.range1 m))
  | ienum {sc xs k r e m p q} : ("enumerate" : Str) ∈ T.fre → glb sc "enumerate" → CE T N true sc (.e e) (.e m) → CE T N true sc (.it (.Tuple xs k r) (.Call (.Name "enumerate" q) [e] [] p)) (.it (.enum m))
/-! ### the context -/
/-- what a call of a def wants -/
def spM (G : Cfg) (nm : FdN) (cf : CF) (np f : Nat) : Sp := fun vs H Q Ex => ∃ ι W M ds, vs.length = np ∧ Rel G ⟨ι, W, H, nm, 0, none⟩ ι W M [] [] H ∧ Dens G ι (ι ++ W) H ds vs ∧
  Sat G ⟨ι, W, H, nm, 0, none⟩ (Den G) (fun cls d _ H' => Ex cls d H') W [] [] ι H (cf f ds M) Q
/-- a def, for calls from a context -/
structure FnI (T : Tb) (G : Cfg) (nm : FdN) (cf : CF) (X : Cx) (f : Nat) : Prop where
  run : ∃ (k : Nat) (fd : FuncData) (ps : List Str), ps.length = T.np f ∧ FnOk X.prog X.w X.K X.mg X.base (L2.CX X.prog X.w) k (G.fnA f) fd ps (spM G nm cf (T.np f) f) ∧ Room k X.A ∧
    ∀ j, j ≤ (T.dfl f).length → ∃ (ds : List Value) (dvs : List V), Vals dvs ds ∧ (∀ ι C H, Dens G ι C H ((T.dfl f).drop j) dvs) ∧ Binds X.K fd ps ds
structure GX (T : Tb) (N : List Str) (G : Cfg) (B : Bs) (Wx : WX) (cf : CF) (c : Bool) (sc so : Scope) (X : Cx) : Prop where
  hK : X.K = G.K
  hN : X.N = N
  nd : N.Nodup
  hsc : X.env.scope = sc
  un : X.A.units + 66 < cLine
  calm : c = true → X.calm = true
  fre : ∀ x ∈ T.fre, X.mg x = none
  con : ∀ x d, T.con.lookup x = some d → ∃ u v, X.mg x = some u ∧ RelV v u ∧ ∀ ι C H, Den G ι C H d v
  fns : c = true → ∀ x f, T.fns.lookup x = some f → X.mg x = some (.ref (G.fnA f)) ∧ PySem.W.keepIn X.K (.ref (G.fnA f)) = true ∧ FnI T G B.N cf X f
  loc : ∀ x, Loc so x → Loc X.env.scope x ∧ (X.fn x = true ∨ X.env.scope.names.lookup x = some .local)
  tk : Takes X Wx
  bn : B.n = N.length
  cls : ∀ x k, T.cls.lookup x = some k → X.mg x = some (.ref (G.clA k))
  xis : c = false → ∀ ea k dd, B.xi = some (ea, k, dd) → CallR X (.builtin "isinstance") (fun xs H Q => ∃ v o fs, xs = [.ref ea, v] ∧ (o = none ∧ v = .ty "ValueError" ∨ ∃ y j, T.cls.lookup y = some j ∧ o = some j ∧ v = .ref (G.clA j)) ∧ H dd = some (.xd fs) ∧ Q (.bl (T.sf k o)) H)
  xac : c = false → ∀ ea k dd, B.xi = some (ea, k, dd) → ∀ (x : Str) (i : Nat) (p q : Pos), PE X (.Name x q) (tVar i) → PE X (.Attribute (.Name x q) "act" p) (fun σ H Q => tVar i σ H fun v H1 => v = .ref ea ∧ ∃ fs u, H1 dd = some (.xd fs) ∧ fs.lookup actN = some u ∧ Q u H1)
section
variable {T : Tb} {N : List Str} {G : Cfg} {B : Bs} {Wx : WX} {cf : CF} {c : Bool} {sc so : Scope} {X : Cx}
theorem GX.op (g : GX T N G B Wx cf c sc so X) : OpX G X := ⟨g.hK, g.un⟩
theorem GX.gl (g : GX T N G B Wx cf c sc so X) {x : Str} (h : glb sc x) : Gl X x := by
  show X.env.scope.names.lookup x = _
  rw [g.hsc]; exact h
theorem GX.vis (g : GX T N G B Wx cf c sc so X) {x : Str} (h : Vis sc x) : Vis X.env.scope x := by rw [g.hsc]; exact h
theorem GX.ix (g : GX T N G B Wx cf c sc so X) {x : Str} {i : Nat} (h : N[i]? = some x) : X.N[i]? = some x := by rw [g.hN]; exact h
theorem plain_dbg {x : Str} (h : plainN x = true) : (x == ("__debug__" : Str)) = false := by
  simp only [plainN, Bool.and_eq_true, Bool.not_eq_true'] at h
  exact h.1
theorem plain_cd {x : Str} (h : plainN x = true) : (x == ("__classdict__" : Str)) = false := by
  simp only [plainN, Bool.and_eq_true, Bool.not_eq_true'] at h
  exact h.2.1
theorem plain_nm {x : Str} (h : plainN x = true) : x ≠ "__name__" := by
  simp only [plainN, Bool.and_eq_true, Bool.not_eq_true'] at h
  exact fun e => by
    rw [e] at h
    exact absurd h.2.2 (by decide +kernel)
theorem BiN.plain {x : Str} {b : Bi} (h : BiN x b) : plainN x = true := by cases h <;> decide +kernel
theorem TyN.plain {x : Str} {b : Ty} (h : TyN x b) : plainN x = true := by cases h <;> decide +kernel
theorem BiN.ok {x : Str} {b : Bi} (o : OpX G X) (hc : X.calm = true) (h : BiN x b) :
    (∃ id, bootBuiltins x = some (.builtin id) ∧ CallR X (.builtin id) (rB G b)) ∨ ∃ ty, bootBuiltins x = some (.type ty) ∧ CallR X (.type ty) (rB G b) := by
  cases h with
  | len => exact .inl ⟨_, by decide +kernel, cB_len o⟩
  | str => exact .inr ⟨_, by decide +kernel, cB_str⟩
  | int => exact .inr ⟨_, by decide +kernel, cB_int⟩
  | tuple => exact .inr ⟨_, by decide +kernel, cB_tuple o⟩
  | list => exact .inr ⟨_, by decide +kernel, cB_list o⟩
  | all => exact .inl ⟨_, by decide +kernel, cB_all o hc⟩
  | any => exact .inl ⟨_, by decide +kernel, cB_any o hc⟩
  | max2 => exact .inl ⟨_, by decide +kernel, cB_max2 hc⟩
  | min2 => exact .inl ⟨_, by decide +kernel, cB_min2 hc⟩
  | abs => exact .inl ⟨_, by decide +kernel, cB_abs⟩
theorem TyN.ok {x : Str} {t : Ty} (h : TyN x t) : bootBuiltins x = some (.type (tyN t)) := by cases h <;> decide +kernel
theorem OpN.ok {o : Operator} {o' : Op} (x : OpX G X) (h : OpN o o') : OpR X (binaryOp o) (rO G o') := by
  cases h with
  | add => exact opR_add x
  | sub => exact opR_sub
  | mul => exact opR_mul x
  | fdiv => exact opR_fdiv
  | mod => exact opR_mod
  | pow => exact opR_pow
theorem CmN.ok {o : CmpOp} {o' : Op} (x : OpX G X) (h : CmN o o') : OpR X (compareOp o) (rO G o') := by
  cases h with
  | eq => exact opR_eq x
  | ne => exact opR_ne x
  | lt => exact opR_lt
  | le => exact opR_le
  | gt => exact opR_gt
  | ge => exact opR_ge
  | isN => exact opR_isN
  | notN => exact opR_notN
  | mem => exact opR_mem x
  | nmem => exact opR_nmem x
end
end Mini

/-! Each expression's run is the model's: the parts. -/
namespace Mini
open PySem PySem.Spec PyProof.Rows L2
section
variable {G : Cfg} {B B' : Bs} {ι ι' ι1 W W' : List Addr} {H H' H1 : Hp} {M M' M1 : Mem} {env env' : Env} {σ σ' : L2.St} {Wx : WX} {Q : VK} {d : D}
theorem Sat.toPure (r : Rel G B ι W M env σ H) (h : Sat G B (Den G) Wx W env σ ι H (.ok d M) Q) : Pure G ι (ι ++ W) d H Q := fun v H' k hd => h v ι H' (r.grow k) hd (Grow.of_keep k)
theorem Sat.toPureO {o : Option D} (r : Rel G B ι W M env σ H) (h : Sat G B (Den G) Wx W env σ ι H (R.of o M) Q) : ∃ d, o = some d ∧ Pure G ι (ι ++ W) d H Q := by
  cases o with
  | none => exact h.elim
  | some d => exact ⟨d, rfl, Sat.toPure r h⟩
/-- another frame's state goes on where cells and heap have gone on -/
theorem Rel.swap (r : Rel G B ι W M env σ H) (g : Grow ι H ι' H') (r' : Rel G B' ι' W M' env' σ' H') (e : B'.N = B.N) : Rel G B ι' W M' env σ H' where
  len := r'.len
  nd := r'.nd
  dis := r'.dis
  live := r'.live
  cells := fun n c a e1 e2 => by
    have h := r'.cells n c a e1 e2
    cases c with
    | obj k fs =>
      obtain ⟨dx, fvs, q, t⟩ := h
      exact ⟨dx, fvs, q, by rw [← e]; exact t⟩
    | _ => exact h
  slots := fun i s e1 => let ⟨v, e2, h⟩ := r.slots i s e1; ⟨v, e2, h.ext g r.dis⟩
  owns := r.owns
  sl := r.sl
  base := r.base.trans g
  wnew := r.wnew
  wsub := r.wsub
/-- the same cells for a frame that has no names yet -/
theorem Rel.bare (r : Rel G B ι W M env σ H) : Rel G ⟨ι, W, H, B.N, 0, none⟩ ι W M [] [] H where
  len := r.len
  nd := r.nd
  dis := r.dis
  live := r.live
  cells := fun n c a e1 e2 => by
    have h := r.cells n c a e1 e2
    cases c <;> exact h
  slots := fun i s e => by simp at e
  owns := fun i j d d' v e => by simp at e
  sl := rfl
  base := Grow.refl
  wnew := fun a m => .inl m
  wsub := fun a m => m
/-- a name is stored -/
theorem Rel.set1 (r : Rel G B ι W M env σ H) {i : Nat} {v : V} (hi : i < B.n) (h : Den G ι (ι ++ W) H d v) : Rel G B ι W M (env.set i (some (.val d))) (σ.set i (some v)) H where
  len := r.len
  nd := r.nd
  dis := r.dis
  live := r.live
  cells := r.cells
  slots := fun j s e => by
    by_cases hj : i = j
    · subst hj
      have hl : i < env.length := by
        have := (List.getElem?_eq_some_iff.mp e).1
        simpa using this
      rw [List.getElem?_set_self hl] at e
      cases e
      exact ⟨v, List.getElem?_set_self (by rw [r.sl]; exact hi), h⟩
    · rw [List.getElem?_set_ne hj] at e
      obtain ⟨w, e2, h2⟩ := r.slots j s e
      exact ⟨w, by rw [List.getElem?_set_ne hj]; exact e2, h2⟩
  owns := fun j k d1 d2 w e1 e2 e3 e4 => by
    have nj : ∀ j d1, (env.set i (some (.val d)))[j]? = some (some (.own d1)) → i ≠ j ∧ env[j]? = some (some (.own d1)) := fun j d1 e => by
      by_cases hj : i = j
      · subst hj
        have hl : i < env.length := by
          have := (List.getElem?_eq_some_iff.mp e).1
          simpa using this
        rw [List.getElem?_set_self hl] at e
        cases e
      · rw [List.getElem?_set_ne hj] at e
        exact ⟨hj, e⟩
    obtain ⟨a1, b1⟩ := nj j d1 e1
    obtain ⟨a2, b2⟩ := nj k d2 e2
    rw [List.getElem?_set_ne a1] at e3
    rw [List.getElem?_set_ne a2] at e4
    exact r.owns j k d1 d2 w b1 b2 e3 e4
  sl := by rw [List.length_set]; exact r.sl
  base := r.base
  wnew := r.wnew
  wsub := r.wsub
/-- names forgotten do no harm to slots that nobody asks -/
theorem evalEs_len {cf : CF} {sf : SF} : ∀ {ms : List E} {M : Mem} {ds : List D} {M' : Mem}, evalEs cf sf env ms M = .ok ds M' → ds.length = ms.length
  | [], M, ds, M', h => by
    unfold evalEs at h
    cases h
    rfl
  | m :: ms, M, ds, M', h => by
    unfold evalEs at h
    cases h1 : evalE cf sf env m M with
    | ok x M1 =>
      rw [h1, R.bind_ok] at h
      cases h2 : evalEs cf sf env ms M1 with
      | ok xs M2 =>
        rw [h2, R.bind_ok] at h
        cases h
        rw [List.length_cons, List.length_cons, evalEs_len h2]
      | exc _ _ _ => rw [h2] at h; cases h
      | bad => rw [h2] at h; cases h
    | exc _ _ _ => rw [h1] at h; cases h
    | bad => rw [h1] at h; cases h
end
section
variable {T : Tb} {N : List Str} {G : Cfg} {B : Bs} {Wx : WX} {cf : CF} {sf : SF} {c : Bool} {sc so : Scope} {X : Cx}
abbrev JE (G : Cfg) (B : Bs) (Wx : WX) (cf : CF) (sf : SF) (X : Cx) (x : Expr) (m : E) : Prop :=
  PE X x (tE G B Wx cf sf m) ∧ PT X x (tB (tE G B Wx cf sf m)) ∧ ∀ op vs pos, x = .BoolOp op vs pos → PW X x (tB (tE G B Wx cf sf m))
abbrev JB (G : Cfg) (B : Bs) (Wx : WX) (cf : CF) (sf : SF) (X : Cx) (x : Expr) (m : E) : Prop := PE X x (tEB G B Wx cf sf m)
def tO (G : Cfg) (B : Bs) (Wx : WX) (cf : CF) (sf : SF) (m : Option E) : TO := fun σ H Q => ∃ ι W M env, Rel G B ι W M env σ H ∧ Sat G B (fun _ _ _ o o' => o = o') Wx W env σ ι H (evalO cf sf env m M) Q
/-- an expression that is no and, or: its test by its value -/
theorem JE.of {x : Expr} {m : E} (h : PE X x (tE G B Wx cf sf m)) (ht : ∀ whole, isTrue x X.env whole = (do let v ← whole; standAt x.pos; holding [v] (truthy v))) (hn : ∀ op vs pos, x ≠ .BoolOp op vs pos) : JE G B Wx cf sf X x m :=
  ⟨h, pt_val h ht, fun op vs pos e => (hn op vs pos e).elim⟩
theorem tE_of_B {m : E} {σ : L2.St} {H : Hp} {Q : VK} (h : tEB G B Wx cf sf m σ H Q) : tE G B Wx cf sf m σ H Q := by
  obtain ⟨ι, W, M, env, r, hs⟩ := h
  refine ⟨ι, W, M, env, r, ?_⟩
  revert hs
  cases evalE cf sf env m M with
  | ok d M' => exact fun hs v ι' H' r' hd g => hs v ι' H' r' (hd.bb fun a z => List.mem_append_left _ z) g
  | exc k a M' => exact fun hs => hs
  | bad => exact fun hs => hs
theorem JE.b {x : Expr} {m : E} (h : JE G B Wx cf sf X x m) : JB G B Wx cf sf X x m := PE.imp h.1 fun _ _ _ z => tE_of_B z
/-- a part that is looked at, then the rest -/
theorem stepB {m : E} {σ : L2.St} {H : Hp} {ι W : List Addr} {M : Mem} {env : Env} {γ : Type} {den2 : List Addr → List Addr → Hp → γ → V → Prop} {f : D → Mem → R γ} {Q : VK} {K : VK} (r : Rel G B ι W M env σ H) (hs : Sat G B den2 Wx W env σ ι H ((evalE cf sf env m M).bind f) Q)
    (k : ∀ v H' ι' d M', Rel G B ι' W M' env σ H' → DenB G ι' (ι' ++ W) H' d v → Grow ι H ι' H' → Sat G B den2 Wx W env σ ι' H' (f d M') Q → K v H') : tEB G B Wx cf sf m σ H K :=
  ⟨ι, W, M, env, r, (Sat.bind (den := DenB G) hs).mono fun v H' ⟨ι', d, M', r', hd, g, _, h⟩ => k v H' ι' d M' r' hd g h⟩
theorem stepE {m : E} {σ : L2.St} {H : Hp} {ι W : List Addr} {M : Mem} {env : Env} {γ : Type} {den2 : List Addr → List Addr → Hp → γ → V → Prop} {f : D → Mem → R γ} {Q : VK} {K : VK} (r : Rel G B ι W M env σ H) (hs : Sat G B den2 Wx W env σ ι H ((evalE cf sf env m M).bind f) Q)
    (k : ∀ v H' ι' d M', Rel G B ι' W M' env σ H' → Den G ι' (ι' ++ W) H' d v → Grow ι H ι' H' → Sat G B den2 Wx W env σ ι' H' (f d M') Q → K v H') : tE G B Wx cf sf m σ H K :=
  ⟨ι, W, M, env, r, (Sat.bind (den := Den G) hs).mono fun v H' ⟨ι', d, M', r', hd, g, _, h⟩ => k v H' ι' d M' r' hd g h⟩
theorem Rel.liveL {ι W : List Addr} {M : Mem} {env : Env} {σ : L2.St} {H : Hp} (r : Rel G B ι W M env σ H) : Live (ι ++ W) H := r.live
/-! ### names, constants -/
theorem s_lit {v : V} {d : D} (h : ∀ ι C H, Den G ι C H d v) {x : Expr} (hx : PE X x (tC v)) : PE X x (tE G B Wx cf sf (.lit d)) := PE.imp hx fun σ H Q ⟨ι, W, M, env, r, hs⟩ => (Sat.toPure r hs).here (h _ _ _)
theorem s_glob {v : V} {d : D} (h : ∀ ι C H, Den G ι C H d v) {x : Expr} (hx : PE X x (tC v)) : PE X x (tE G B Wx cf sf (.glob d)) := PE.imp hx fun σ H Q ⟨ι, W, M, env, r, hs⟩ => (Sat.toPure r hs).here (h _ _ _)
theorem s_var (g : GX T N G B Wx cf c sc so X) {x : Str} {i : Nat} {p : Pos} (h1 : N[i]? = some x) (h2 : Vis sc x) (h3 : plainN x = true) : PE X (.Name x p) (tE G B Wx cf sf (.var i)) :=
  PE.imp (pe_var (g.ix h1) (g.vis h2) (plain_dbg h3) (plain_cd h3)) fun σ H Q ⟨ι, W, M, env, r, hs⟩ => by
    obtain ⟨d, e, q⟩ := Sat.toPureO r hs
    obtain ⟨v, e2, hd⟩ := r.rdVal e
    exact ⟨v, e2, q.here hd⟩
theorem s_bvar (g : GX T N G B Wx cf c sc so X) {x : Str} {i : Nat} {p : Pos} (h1 : N[i]? = some x) (h2 : Vis sc x) (h3 : plainN x = true) : PE X (.Name x p) (tEB G B Wx cf sf (.bvar i)) :=
  PE.imp (pe_var (g.ix h1) (g.vis h2) (plain_dbg h3) (plain_cd h3)) fun σ H Q ⟨ι, W, M, env, r, hs⟩ => by
    have hs' : Sat G B (DenB G) Wx W env σ ι H (R.of (rdAny env i) M) Q := hs
    cases e : rdAny env i with
    | none => rw [e] at hs'; exact hs'.elim
    | some d =>
      rw [e] at hs'
      obtain ⟨v, e2, hd⟩ := r.rdAny e
      exact ⟨v, e2, hs' v ι H r hd Grow.refl⟩
/-! ### displays -/
theorem stepEs {ms : List E} {σ : L2.St} {H : Hp} {ι W : List Addr} {M : Mem} {env : Env} {γ : Type} {den2 : List Addr → List Addr → Hp → γ → V → Prop} {f : List D → Mem → R γ} {Q : VK} {K : List V → Hp → Prop} (r : Rel G B ι W M env σ H) (hs : Sat G B den2 Wx W env σ ι H ((evalEs cf sf env ms M).bind f) Q)
    (k : ∀ v H' ι' d M', Rel G B ι' W M' env σ H' → Dens G ι' (ι' ++ W) H' d v → Grow ι H ι' H' → d.length = ms.length → Sat G B den2 Wx W env σ ι' H' (f d M') Q → K v H') : tEs G B Wx cf sf ms σ H K :=
  ⟨ι, W, M, env, r, (Sat.bind (den := Dens G) hs).mono fun v H' ⟨ι', d, M', r', hd, g, e, h⟩ => k v H' ι' d M' r' hd g (evalEs_len e) h⟩
theorem stepEsB {ms : List E} {σ : L2.St} {H : Hp} {ι W : List Addr} {M : Mem} {env : Env} {γ : Type} {den2 : List Addr → List Addr → Hp → γ → V → Prop} {f : List D → Mem → R γ} {Q : VK} {K : List V → Hp → Prop} (r : Rel G B ι W M env σ H) (hs : Sat G B den2 Wx W env σ ι H ((evalEs cf sf env ms M).bind f) Q)
    (k : ∀ v H' ι' d M', Rel G B ι' W M' env σ H' → DensB G ι' (ι' ++ W) H' d v → Grow ι H ι' H' → Sat G B den2 Wx W env σ ι' H' (f d M') Q → K v H') : tEsB G B Wx cf sf ms σ H K :=
  ⟨ι, W, M, env, r, (Sat.bind (den := DensB G) hs).mono fun v H' ⟨ι', d, M', r', hd, g, e, h⟩ => k v H' ι' d M' r' hd g h⟩
theorem s_tup {es : List Expr} {ms : List E} {k : Nat} {p : Pos} (hz : ms.length ≤ 1000) (h : PA X es (tEs G B Wx cf sf ms)) : PE X (.Tuple es k p) (tE G B Wx cf sf (.tup ms)) :=
  PE.imp (pe_tup h) fun σ H Q ⟨ι, W, M, env, r, hs⟩ => stepEs r hs fun v H' ι' d M' r' hd g e h => ⟨by rw [hd.length, e, sizeLine_eq]; omega, (Sat.toPure r' h).tup r'.liveL hd⟩
theorem s_lst {es : List Expr} {ms : List E} {p : Pos} (hz : ms.length ≤ 1000) (h : PA X es (tEs G B Wx cf sf ms)) : PE X (.List es p) (tE G B Wx cf sf (.lst ms)) :=
  PE.imp (pe_lst h) fun σ H Q ⟨ι, W, M, env, r, hs⟩ => stepEs r hs fun v H' ι' d M' r' hd g e h => ⟨by rw [hd.length, e, sizeLine_eq]; omega, (Sat.toPure r' h).lst r'.liveL hd⟩
/-! ### operators -/
theorem i_op {o : Op} {ma mb : E} {σ : L2.St} {H : Hp} {Q : VK} (h : tE G B Wx cf sf (.op o ma mb) σ H Q) : tOp (rO G o) (tEB G B Wx cf sf ma) (tEB G B Wx cf sf mb) σ H Q := by
  obtain ⟨ι, W, M, env, r, hs⟩ := h
  refine stepB r hs fun x H1 ι1 d M1 r1 hd g1 hs1 => stepB r1 hs1 fun y H2 ι2 e M2 r2 he g2 hs2 => ?_
  obtain ⟨z, ez, q⟩ := Sat.toPureO r2 hs2
  exact ⟨ι2, ι2 ++ W, _, _, z, r2.liveL, r2.peek (hd.ext g2 g2.old), r2.peek he, ez, q⟩
theorem s_op (g : GX T N G B Wx cf c sc so X) {o : Operator} {o' : Op} {a b : Expr} {ma mb : E} {p : Pos} (ho : OpN o o') (ha : JB G B Wx cf sf X a ma) (hb : JB G B Wx cf sf X b mb) : PE X (.BinOp a o b p) (tE G B Wx cf sf (.op o' ma mb)) :=
  PE.imp (pe_op (ho.ok g.op) ha hb) fun _ _ _ h => i_op h
theorem s_cmp (g : GX T N G B Wx cf c sc so X) {o : CmpOp} {o' : Op} {a b : Expr} {ma mb : E} {p : Pos} (ho : CmN o o') (hm : behindInMarks o b = false) (ha : JB G B Wx cf sf X a ma) (hb : JB G B Wx cf sf X b mb) : JE G B Wx cf sf X (.Compare a [o] [b] p) (.op o' ma mb) :=
  ⟨PE.imp (pe_cmpR (ho.ok g.op) ha hb hm) fun _ _ _ h => i_op h, PT.imp (pt_cmpR (ho.ok g.op) ha hb hm) fun _ _ _ h => i_op h, fun _ _ _ e => by cases e⟩
theorem i_chain {o o' : Op} {ma mb md : E} {σ : L2.St} {H : Hp} {Q : VK} (h : tE G B Wx cf sf (.chain o o' ma mb md) σ H Q) : tChain (rO G o) (rO G o') (tEB G B Wx cf sf ma) (tEB G B Wx cf sf mb) (tEB G B Wx cf sf md) σ H Q := by
  obtain ⟨ι, W, M, env, r, hs⟩ := h
  refine stepB r hs fun x H1 ι1 d M1 r1 hd g1 hs1 => stepB r1 hs1 fun y H2 ι2 e M2 r2 he g2 hs2 => ?_
  cases ez : opD o (peek M2 d) (peek M2 e) with
  | none => rw [ez] at hs2; exact hs2.elim
  | some z =>
    rw [ez] at hs2
    refine ⟨ι2, ι2 ++ W, _, _, z, r2.liveL, r2.peek (hd.ext g2 g2.old), r2.peek he, ez, fun v H3 k hv => ?_⟩
    have r3 := r2.grow k
    have g3 : Grow ι2 H2 ι2 H3 := Grow.of_keep k
    have hs3 := hs2.later g3
    cases z with
    | bl kk =>
      refine ⟨kk, hv, ?_⟩
      cases kk with
      | false => exact iteF ((Sat.toPure r3 hs3).here rfl)
      | true =>
        refine iteT (stepB r3 hs3 fun w H4 ι4 f M4 r4 hf g4 hs4 => ?_)
        obtain ⟨z, ez, q⟩ := Sat.toPureO r4 hs4
        exact ⟨ι4, ι4 ++ W, _, _, z, r4.liveL, r4.peek ((he.ext g3 g3.old).ext g4 g4.old), r4.peek hf, ez, q⟩
    | _ => exact hs3.elim
theorem CmN.nomem {o : CmpOp} {u : Op} (h : CmN o u) (h1 : u ≠ .mem) (h2 : u ≠ .nmem) : o ≠ .In ∧ o ≠ .NotIn := by
  cases h <;> first
    | exact (h1 rfl).elim
    | exact (h2 rfl).elim
    | exact ⟨by decide, by decide⟩
end
end Mini

/-! Each expression's run is the model's: tests, places, built-ins, calls. -/
namespace Mini
open PySem PySem.Spec PyProof.Rows L2
section
variable {T : Tb} {N : List Str} {G : Cfg} {B : Bs} {Wx : WX} {cf : CF} {sf : SF} {c : Bool} {sc so : Scope} {X : Cx}
theorem lastMarks2 {o o' : CmpOp} {b d : Expr} (h : o' ≠ .In) (h2 : o' ≠ .NotIn) : lastMarks [o, o'] [b, d] = false := by
  show behindInMarks o' d = false
  exact nobehind d h h2
theorem s_chain (g : GX T N G B Wx cf c sc so X) {o o' : CmpOp} {u u' : Op} {a b d : Expr} {ma mb md : E} {p : Pos} (ho : CmN o u) (ho' : CmN o' u') (n1 : u' ≠ .mem) (n2 : u' ≠ .nmem)
    (ha : JB G B Wx cf sf X a ma) (hb : JB G B Wx cf sf X b mb) (hd : JB G B Wx cf sf X d md) : JE G B Wx cf sf X (.Compare a [o, o'] [b, d] p) (.chain u u' ma mb md) :=
  have hm := ho'.nomem n1 n2
  ⟨PE.imp (pe_chain (ho.ok g.op) (ho'.ok g.op) ha hb hd (lastMarks2 hm.1 hm.2)) fun _ _ _ h => i_chain h, PT.imp (pt_chain (ho.ok g.op) (ho'.ok g.op) ha hb hd (lastMarks2 hm.1 hm.2)) fun _ _ _ h => i_chain h, fun _ _ _ e => by cases e⟩
theorem s_neg (g : GX T N G B Wx cf c sc so X) {a : Expr} {ma : E} {p : Pos} (ha : JE G B Wx cf sf X a ma) : PE X (.UnaryOp .USub a p) (tE G B Wx cf sf (.neg ma)) :=
  PE.imp (pe_un un_neg ha.1) fun σ H Q ⟨ι, W, M, env, r, hs⟩ => stepE r hs fun v H' ι' d M' r' hd g h => by
    cases d with
    | int i => exact ⟨i, hd, (Sat.toPure r' h).here rfl⟩
    | _ => exact h.elim
/-- an answer that is a truth -/
theorem i_not {ma : E} {σ : L2.St} {H : Hp} {Q : VK} (h : tE G B Wx cf sf (.not ma) σ H Q) : tE G B Wx cf sf ma σ H fun x H1 => ∃ k, x = .bl k ∧ Q (.bl (!k)) H1 := by
  obtain ⟨ι, W, M, env, r, hs⟩ := h
  refine stepE r hs fun v H' ι' d M' r' hd g h => ?_
  cases d with
  | bl k => exact ⟨k, hd, (Sat.toPure r' h).here rfl⟩
  | _ => exact h.elim
theorem s_not {a : Expr} {ma : E} {p : Pos} (ha : JE G B Wx cf sf X a ma) : JE G B Wx cf sf X (.UnaryOp .Not a p) (.not ma) := by
  refine ⟨PE.imp (pe_not ha.1) fun _ _ _ h => i_not h, PT.imp (pt_not ha.2.1) fun σ H Q h => ?_, fun _ _ _ e => by cases e⟩
  obtain ⟨ι, W, M, env, r, hs⟩ := i_not h
  exact ⟨ι, W, M, env, r, hs.mono fun v H' ⟨k, e, k', e', q⟩ => ⟨k, e, by cases e'; exact q⟩⟩
theorem i_and {ma mb : E} {σ : L2.St} {H : Hp} {Q : VK} (h : tE G B Wx cf sf (.and ma mb) σ H Q) : tE G B Wx cf sf ma σ H fun x H1 => ∃ k, x = .bl k ∧ if k = true then tE G B Wx cf sf mb σ H1 Q else Q (.bl false) H1 := by
  obtain ⟨ι, W, M, env, r, hs⟩ := h
  refine stepE r hs fun v H' ι' d M' r' hd g h => ?_
  cases d with
  | bl k =>
    refine ⟨k, hd, ?_⟩
    cases k with
    | true => exact iteT ⟨ι', W, M', env, r', h⟩
    | false => exact iteF ((Sat.toPure r' h).here rfl)
  | _ => exact h.elim
theorem i_or {ma mb : E} {σ : L2.St} {H : Hp} {Q : VK} (h : tE G B Wx cf sf (.or ma mb) σ H Q) : tE G B Wx cf sf ma σ H fun x H1 => ∃ k, x = .bl k ∧ if k = true then Q (.bl true) H1 else tE G B Wx cf sf mb σ H1 Q := by
  obtain ⟨ι, W, M, env, r, hs⟩ := h
  refine stepE r hs fun v H' ι' d M' r' hd g h => ?_
  cases d with
  | bl k =>
    refine ⟨k, hd, ?_⟩
    cases k with
    | true => exact iteT ((Sat.toPure r' h).here rfl)
    | false => exact iteF ⟨ι', W, M', env, r', h⟩
  | _ => exact h.elim
theorem s_and {a b : Expr} {r : List Expr} {ma mb : E} {p : Pos} (ha : JE G B Wx cf sf X a ma) (hb : JE G B Wx cf sf X (.BoolOp .And (b :: r) p) mb) : JE G B Wx cf sf X (.BoolOp .And (a :: b :: r) p) (.and ma mb) := by
  have hw : PW X (.BoolOp .And (a :: b :: r) p) (tB (tE G B Wx cf sf (.and ma mb))) := PW.imp (pw_and ha.2.1 (hb.2.2 _ _ _ rfl)) fun σ H Q h => by
    obtain ⟨ι, W, M, env, r, hs⟩ := i_and h
    refine ⟨ι, W, M, env, r, hs.mono fun v H' ⟨k, e, q⟩ => ⟨k, e, ?_⟩⟩
    cases k with
    | true => rw [if_pos rfl] at q; exact iteT q
    | false =>
      rw [if_neg (by decide)] at q
      obtain ⟨k', e', q⟩ := q
      cases e'
      exact iteF q
  exact ⟨PE.imp (pe_and ha.1 hb.1) fun _ _ _ h => i_and h, hw.pt, fun _ _ _ e => by cases e; exact hw⟩
theorem s_or {a b : Expr} {r : List Expr} {ma mb : E} {p : Pos} (ha : JE G B Wx cf sf X a ma) (hb : JE G B Wx cf sf X (.BoolOp .Or (b :: r) p) mb) : JE G B Wx cf sf X (.BoolOp .Or (a :: b :: r) p) (.or ma mb) := by
  have hw : PW X (.BoolOp .Or (a :: b :: r) p) (tB (tE G B Wx cf sf (.or ma mb))) := PW.imp (pw_or ha.2.1 (hb.2.2 _ _ _ rfl)) fun σ H Q h => by
    obtain ⟨ι, W, M, env, r, hs⟩ := i_or h
    refine ⟨ι, W, M, env, r, hs.mono fun v H' ⟨k, e, q⟩ => ⟨k, e, ?_⟩⟩
    cases k with
    | false => rw [if_neg (by decide)] at q; exact iteF q
    | true =>
      rw [if_pos rfl] at q
      obtain ⟨k', e', q⟩ := q
      cases e'
      exact iteT q
  exact ⟨PE.imp (pe_or ha.1 hb.1) fun _ _ _ h => i_or h, hw.pt, fun _ _ _ e => by cases e; exact hw⟩
theorem s_and1 {a : Expr} {ma : E} {p : Pos} (ha : JE G B Wx cf sf X a ma) : JE G B Wx cf sf X (.BoolOp .And [a] p) ma := ⟨pe_one ha.1, (pw_and1 ha.2.1).pt, fun _ _ _ e => by cases e; exact pw_and1 ha.2.1⟩
theorem s_or1 {a : Expr} {ma : E} {p : Pos} (ha : JE G B Wx cf sf X a ma) : JE G B Wx cf sf X (.BoolOp .Or [a] p) ma := ⟨pe_one ha.1, (pw_or1 ha.2.1).pt, fun _ _ _ e => by cases e; exact pw_or1 ha.2.1⟩
theorem i_ife {mt ma mb : E} {σ : L2.St} {H : Hp} {Q : VK} (h : tE G B Wx cf sf (.ife mt ma mb) σ H Q) : tE G B Wx cf sf mt σ H fun x H1 => ∃ k, x = .bl k ∧ if k = true then tE G B Wx cf sf ma σ H1 Q else tE G B Wx cf sf mb σ H1 Q := by
  obtain ⟨ι, W, M, env, r, hs⟩ := h
  refine stepE r hs fun v H' ι' d M' r' hd g h => ?_
  cases d with
  | bl k =>
    refine ⟨k, hd, ?_⟩
    cases k with
    | true => exact iteT ⟨ι', W, M', env, r', h⟩
    | false => exact iteF ⟨ι', W, M', env, r', h⟩
  | _ => exact h.elim
theorem pt_ife {t a b : Expr} {p : Pos} {tt ta tb : TT} (ht : PT X t tt) (ha : PT X a ta) (hb : PT X b tb) : PT X (.IfExp t a b p) (fun σ H Q => tt σ H fun k H1 => if k = true then ta σ H1 Q else tb σ H1 Q) := by
  refine ⟨fun pins s σ H Q I h => ?_⟩
  show wpAny _ _ (do if ← isTrue t X.env (eval t X.env) then isTrue a X.env (eval a X.env) else isTrue b X.env (eval b X.env)) _ _ _
  refine wpAny_bind (thn (ht.run pins s σ H _ I h) fun k s1 ⟨H1, I1, q⟩ => ?_)
  cases k with
  | true =>
    rw [if_pos rfl] at q
    rw [if_pos rfl]
    exact ha.run pins s1 σ H1 Q I1 q
  | false =>
    rw [if_neg (by decide)] at q
    rw [if_neg (by decide)]
    exact hb.run pins s1 σ H1 Q I1 q
theorem s_ife {t a b : Expr} {mt ma mb : E} {p : Pos} (ht : JE G B Wx cf sf X t mt) (ha : JE G B Wx cf sf X a ma) (hb : JE G B Wx cf sf X b mb) : JE G B Wx cf sf X (.IfExp t a b p) (.ife mt ma mb) := by
  refine ⟨PE.imp (pe_ifExp ht.2.1 ha.1 hb.1) fun σ H Q h => i_ife h, PT.imp (pt_ife ht.2.1 ha.2.1 hb.2.1) fun σ H Q h => i_ife h, fun _ _ _ e => by cases e⟩
/-! ### places and slices -/
theorem plainIx_of {b : Expr} (h : simpleIx b = true) : PlainIx b := by
  intro o i
  cases b <;> first
    | rfl
    | cases h
theorem s_sub (g : GX T N G B Wx cf c sc so X) {a i : Expr} {ma mi : E} {p : Pos} (h : simpleIx i = true) (ha : JB G B Wx cf sf X a ma) (hi : JE G B Wx cf sf X i mi) : PE X (.Subscript a i p) (tE G B Wx cf sf (.sub ma mi)) :=
  PE.imp (pe_ix (ixR_sub g.op) ha hi.1 (plainIx_of h)) fun σ H Q ⟨ι, W, M, env, r, hs⟩ => stepB r hs fun x H1 ι1 d M1 r1 hd g1 hs1 => stepE r1 hs1 fun y H2 ι2 e M2 r2 he g2 hs2 => by
    obtain ⟨z, ez, q⟩ := Sat.toPureO r2 hs2
    exact ⟨ι2, ι2 ++ W, _, _, z, r2.liveL, r2.peekR (hd.ext g2 g2.old), (he.bb fun a z => List.mem_append_left _ z).p, ez, q⟩
theorem stepO {m : Option E} {σ : L2.St} {H : Hp} {ι W : List Addr} {M : Mem} {env : Env} {γ : Type} {den2 : List Addr → List Addr → Hp → γ → V → Prop} {f : Option Int → Mem → R γ} {Q : VK} {K : Option Int → Hp → Prop} (r : Rel G B ι W M env σ H) (hs : Sat G B den2 Wx W env σ ι H ((evalO cf sf env m M).bind f) Q)
    (k : ∀ v H' ι' M', Rel G B ι' W M' env σ H' → Grow ι H ι' H' → Sat G B den2 Wx W env σ ι' H' (f v M') Q → K v H') : tO G B Wx cf sf m σ H K :=
  ⟨ι, W, M, env, r, (Sat.bind (den := fun _ _ _ o o' => o = o') hs).mono fun v H' ⟨ι', d, M', r', hd, g, _, h⟩ => k v H' ι' M' r' g (by rw [← hd]; exact h)⟩
theorem s_slc (g : GX T N G B Wx cf c sc so X) {a : Expr} {lo hi : Option Expr} {ma : E} {ml mh : Option E} {p q : Pos} (ha : JB G B Wx cf sf X a ma) (hl : PO X lo (tO G B Wx cf sf ml)) (hh : PO X hi (tO G B Wx cf sf mh)) :
    PE X (.Subscript a (.Slice lo hi none q) p) (tE G B Wx cf sf (.slc ma ml mh)) :=
  PE.imp (pe_slice (slR_slc g.op) ha hl hh) fun σ H Q ⟨ι, W, M, env, r, hs⟩ => stepB r hs fun x H1 ι1 d M1 r1 hd g1 hs1 => stepO r1 hs1 fun y H2 ι2 M2 r2 g2 hs2 => stepO r2 hs2 fun z H3 ι3 M3 r3 g3 hs3 => by
    obtain ⟨w, ez, q⟩ := Sat.toPureO r3 hs3
    exact ⟨ι3, ι3 ++ W, _, w, r3.liveL, r3.peekR ((hd.ext g2 g2.old).ext g3 g3.old), ez, q⟩
theorem PO.imp {e : Option Expr} {t t' : TO} (h : PO X e t) (i : ∀ σ H Q, t' σ H Q → t σ H Q) : PO X e t' := ⟨fun pins s σ H Q I hw => h.run pins s σ H Q I (i _ _ _ hw)⟩
theorem s_onone : PO X none (tO G B Wx cf sf none) := PO.imp po_none fun σ H Q ⟨ι, W, M, env, r, hs⟩ => (show Sat G B (fun _ _ _ o o' => o = o') Wx W env σ ι H (.ok none M) Q from hs) none ι H r rfl Grow.refl
theorem s_osome {e : Expr} {m : E} (h : JE G B Wx cf sf X e m) : PO X (some e) (tO G B Wx cf sf (some m)) := PO.imp (po_some h.1) fun σ H Q ⟨ι, W, M, env, r, hs⟩ => by
  refine ⟨ι, W, M, env, r, (Sat.bind (den := Den G) (den2 := fun _ _ _ (o : Option Int) (v : V) => ∃ i, o = some i ∧ v = .int i) (f := fun x m1 => match x with | .int i => .ok (some i) m1 | _ => .bad) (Qf := fun v H' => ∃ i, v = .int i ∧ Q (some i) H') ?_).mono fun v H' ⟨ι', d, M', r', hd, g, _, hs'⟩ => ?_⟩
  · have hs1 : Sat G B (fun _ _ _ o o' => o = o') Wx W env σ ι H ((evalE cf sf env m M).bind fun x m1 => match x with | .int i => .ok (some i) m1 | _ => .bad) Q := hs
    revert hs1
    cases ((evalE cf sf env m M).bind fun x m1 => match x with | .int i => R.ok (some i) m1 | _ => R.bad) with
    | ok o m1 =>
      intro hs1 v ι' H' r' ⟨i, e1, e2⟩ g'
      subst e1
      exact ⟨i, e2, hs1 (some i) ι' H' r' rfl g'⟩
    | exc k a m1 => exact fun hs1 => hs1
    | bad => exact fun hs1 => hs1
  · cases d with
    | int i =>
      obtain ⟨j, e1, q⟩ := hs' v ι' H' r' ⟨i, rfl, hd⟩ Grow.refl
      exact ⟨j, e1, q⟩
    | _ => exact hs'.elim
/-! ### lists of arguments -/
theorem CE.star {a : Expr} {m : E} (h : CE T N c sc (.e a) (.e m)) : ∀ es env, starEach (a :: es) env = (false, eval a env) :: starEach es env := by
  intro es env
  cases h <;> rfl
theorem CE.starB {a : Expr} {m : E} (h : CE T N c sc (.b a) (.e m)) : ∀ es env, starEach (a :: es) env = (false, eval a env) :: starEach es env := by
  cases h with
  | of h => exact h.star
  | bvar _ _ _ => intro es env; rfl
theorem s_nil : PA X [] (tEs G B Wx cf sf []) := PA.imp pa_nil fun σ H Q ⟨ι, W, M, env, r, hs⟩ => (show Sat G B (Dens G) Wx W env σ ι H (.ok [] M) Q from hs) [] ι H r rfl Grow.refl
theorem s_cons {e : Expr} {es : List Expr} {m : E} {ms : List E} (hst : ∀ es env, starEach (e :: es) env = (false, eval e env) :: starEach es env) (h : JE G B Wx cf sf X e m) (t : PA X es (tEs G B Wx cf sf ms)) : PA X (e :: es) (tEs G B Wx cf sf (m :: ms)) :=
  PA.imp (pa_cons h.1 t (hst _ _)) fun σ H Q ⟨ι, W, M, env, r, hs⟩ => by
    have hs1 : Sat G B (Dens G) Wx W env σ ι H ((evalE cf sf env m M).bind fun x m1 => (evalEs cf sf env ms m1).bind fun xs m2 => .ok (x :: xs) m2) Q := hs
    refine ⟨ι, W, M, env, r, ?_⟩
    revert hs1
    cases evalE cf sf env m M with
    | bad => exact fun hs1 => hs1
    | exc k a m1 => exact fun hs1 => hs1
    | ok x M1 =>
      intro hs1 v ι1 H1 r1 hd g1
      refine ⟨ι1, W, M1, env, r1, ?_⟩
      rw [R.bind_ok] at hs1
      revert hs1
      cases evalEs cf sf env ms M1 with
      | bad => exact fun hs1 => hs1
      | exc k a m1 => exact fun hs1 dd ι' H' r' x' g' => hs1 dd ι' H' r' x' (g1.trans g')
      | ok xs M2 => exact fun hs1 vs ι2 H2 r2 hds g2 => hs1 (v :: vs) ι2 H2 r2 ⟨v, vs, rfl, hd.ext g2.addW, hds⟩ (g1.trans g2)
theorem s_bnil : PA X [] (tEsB G B Wx cf sf []) := PA.imp pa_nil fun σ H Q ⟨ι, W, M, env, r, hs⟩ => (show Sat G B (DensB G) Wx W env σ ι H (.ok [] M) Q from hs) [] ι H r rfl Grow.refl
theorem s_bcons {e : Expr} {es : List Expr} {m : E} {ms : List E} (hst : ∀ es env, starEach (e :: es) env = (false, eval e env) :: starEach es env) (h : JB G B Wx cf sf X e m) (t : PA X es (tEsB G B Wx cf sf ms)) : PA X (e :: es) (tEsB G B Wx cf sf (m :: ms)) :=
  PA.imp (pa_cons h t (hst _ _)) fun σ H Q ⟨ι, W, M, env, r, hs⟩ => by
    have hs1 : Sat G B (DensB G) Wx W env σ ι H ((evalE cf sf env m M).bind fun x m1 => (evalEs cf sf env ms m1).bind fun xs m2 => .ok (x :: xs) m2) Q := hs
    refine ⟨ι, W, M, env, r, ?_⟩
    revert hs1
    cases evalE cf sf env m M with
    | bad => exact fun hs1 => hs1
    | exc k a m1 => exact fun hs1 => hs1
    | ok x M1 =>
      intro hs1 v ι1 H1 r1 hd g1
      refine ⟨ι1, W, M1, env, r1, ?_⟩
      rw [R.bind_ok] at hs1
      revert hs1
      cases evalEs cf sf env ms M1 with
      | bad => exact fun hs1 => hs1
      | exc k a m1 => exact fun hs1 dd ι' H' r' x' g' => hs1 dd ι' H' r' x' (g1.trans g')
      | ok xs M2 => exact fun hs1 vs ι2 H2 r2 hds g2 => hs1 (v :: vs) ι2 H2 r2 ⟨v, vs, rfl, hd.ext g2 g2.old, hds⟩ (g1.trans g2)
/-! ### built-ins -/
theorem DensB.r {ι W : List Addr} {M : Mem} {env : Env} {σ : L2.St} {H : Hp} (r : Rel G B ι W M env σ H) : ∀ {ds : List D} {vs : List V}, DensB G ι (ι ++ W) H ds vs → DensR G ι (ι ++ W) H (ds.map (peekR M)) vs
  | [], _, h => h
  | d :: ds, _, h => by
    obtain ⟨v, t, e, h1, h2⟩ := h
    exact ⟨v, t, e, r.peekR h1, DensB.r r h2⟩
theorem pl_star : ∀ {es : List Expr} {ms : List E} (pos : Pos) (env : PySem.Env), CE T N c sc (.es es) (.es ms) → (backTo pos (starEach es env)).any (·.1) = false := by
  intro es ms pos env h
  have key : ∀ {es : List Expr} {ms : List E}, CE T N c sc (.es es) (.es ms) → (starEach es env).any (·.1) = false := by
    intro es
    induction es with
    | nil => intro ms _; rfl
    | cons e es ih =>
      intro ms h
      cases h with
      | cons h1 h2 =>
        rw [h1.star]
        simp only [List.any_cons, Bool.false_or]
        exact ih h2
  have k2 := key h
  unfold backTo
  rw [List.any_map]
  exact k2
theorem pl_starB : ∀ {es : List Expr} {ms : List E} (pos : Pos) (env : PySem.Env), CE T N c sc (.bs es) (.es ms) → (backTo pos (starEach es env)).any (·.1) = false := by
  intro es ms pos env h
  have key : ∀ {es : List Expr} {ms : List E}, CE T N c sc (.bs es) (.es ms) → (starEach es env).any (·.1) = false := by
    intro es
    induction es with
    | nil => intro ms _; rfl
    | cons e es ih =>
      intro ms h
      cases h with
      | bcons h1 h2 =>
        rw [h1.starB]
        simp only [List.any_cons, Bool.false_or]
        exact ih h2
  have k2 := key h
  unfold backTo
  rw [List.any_map]
  exact k2
theorem s_bi (g : GX T N G B Wx cf c sc so X) (hc : X.calm = true) {x : Str} {b : Bi} {e : Expr} {es : List Expr} {ms : List E} {p q : Pos} (hb : BiN x b) (hx : x ∈ T.fre) (hg : glb sc x) (hce : CE T N c sc (.bs (e :: es)) (.es ms)) (ha : PA X (e :: es) (tEsB G B Wx cf sf ms)) :
    PE X (.Call (.Name x q) (e :: es) [] p) (tE G B Wx cf sf (.bi b ms)) := by
  have hi : ∀ σ H Q, tE G B Wx cf sf (.bi b ms) σ H Q → tCB (rB G b) (tEsB G B Wx cf sf ms) σ H Q := fun σ H Q ⟨ι, W, M, env, r, hs⟩ => stepEsB r hs fun v H' ι' d M' r' hd g' h => by
    obtain ⟨z, ez, q⟩ := Sat.toPureO r' h
    exact ⟨ι', ι' ++ W, _, z, r'.liveL, hd.r r', ez, q⟩
  have h1 := hb.plain
  have hst : starEach (e :: es) X.env = (false, eval e X.env) :: starEach es X.env ∧ (backTo p (starEach es X.env)).any (·.1) = false := by
    cases hce with
    | bcons h1 h2 => exact ⟨h1.starB _ _, pl_starB p _ h2⟩
  rcases hb.ok g.op hc with ⟨id, hv, hr⟩ | ⟨id, hv, hr⟩
  · exact PE.imp (pe_callB hr (g.gl hg) (g.fre x hx) hv ha (plain_nm h1) (plain_dbg h1) hst.1 hst.2) hi
  · exact PE.imp (pe_callTy hr (g.gl hg) (g.fre x hx) hv ha (plain_nm h1) (plain_dbg h1) hst.1 hst.2) hi
theorem s_isi (g : GX T N G B Wx cf c sc so X) {a : Expr} {x : Str} {t : Ty} {ma : E} {p q r : Pos} (ht : TyN x t) (hx : x ∈ T.fre) (hg : glb sc x) (hy : ("isinstance" : Str) ∈ T.fre) (hg' : glb sc "isinstance") (hst : ∀ es env, starEach (a :: es) env = (false, eval a env) :: starEach es env) (ha : JB G B Wx cf sf X a ma) :
    PE X (.Call (.Name "isinstance" q) [a, .Name x r] [] p) (tE G B Wx cf sf (.isi ma t)) := by
  have hn : PE X (.Name x r) (tC (.ty (tyN t))) := pe_bltn (g.gl hg) (g.fre x hx) ht.ok rfl (plain_nm ht.plain) (plain_dbg ht.plain)
  refine PE.imp (pe_callB (cB_isi g.op t) (g.gl hg') (g.fre _ hy) boot_isinstance (pa_cons ha (pa_cons hn pa_nil) (hst _ _)) (by decide) (by decide) (hst _ _) rfl) fun σ H Q ⟨ι, W, M, env, rr, hs⟩ => stepB rr hs fun v H' ι' d M' r' hd g' h => ?_
  obtain ⟨z, ez, q⟩ := Sat.toPureO r' h
  obtain ⟨b, eb, rfl⟩ := Option.map_eq_some_iff.mp ez
  exact ⟨ι', ι' ++ W, _, v, b, rfl, r'.peekR hd, eb, q.here rfl⟩
theorem MtN.ok {x : Str} {b : Bi} (o : OpX G X) (h : MtN x b) : ∃ (ty id : String), PlainAttrs ty ∧ PySem.Slot ty x id ∧ typeOf (.builtin id) = pure (.type "method_descriptor") ∧ MtR X id (rM G b) ∧ ∀ ι C H d v, recv b d = true → DenR G ι C H d v → tyV X.K ty v H := by
  cases h with
  | join => exact ⟨_, _, PySem.F.plainAttrs_str, PySem.F.slot_str_join, PySem.F.type_str_join, mB_join o, fun ι C H d v h1 h2 => by
      cases d <;> first
        | (cases h1; done)
        | skip
      rw [h2.str]
      rfl⟩
  | find => exact ⟨_, _, PySem.F.plainAttrs_str, PySem.F.slot_str_find, PySem.F.type_str_find, mB_find, fun ι C H d v h1 h2 => by
      cases d <;> first
        | (cases h1; done)
        | skip
      rw [h2.str]
      rfl⟩
theorem DenR.ext {d : D} {v : V} {ι W ι' : List Addr} {M M' : Mem} {env : Env} {σ : L2.St} {H H' : Hp} (b : Bi) (hr : recv b d = true) (h : DenR G ι (ι ++ W) H d v) : DenR G ι' (ι' ++ W) H' d v := by
  cases d <;> first
    | (cases b <;> cases hr; done)
    | exact h
end
end Mini

/-! Each expression's run is the model's: methods, calls of defs, what is walked, comprehensions. -/
namespace Mini
open PySem PySem.Spec PyProof.Rows L2
section
variable {T : Tb} {N : List Str} {G : Cfg} {B : Bs} {Wx : WX} {cf : CF} {sf : SF} {c : Bool} {sc so : Scope} {X : Cx}
theorem all_star : ∀ {es : List Expr} {ms : List E} (pos : Pos) (env : PySem.Env), CE T N c sc (.bs es) (.es ms) → (backTo pos (starEach es env)).all (fun x => !x.1) = true := by
  intro es ms pos env h
  have key : ∀ {es : List Expr} {ms : List E}, CE T N c sc (.bs es) (.es ms) → (starEach es env).all (fun x => !x.1) = true := by
    intro es
    induction es with
    | nil => intro ms _; rfl
    | cons e es ih =>
      intro ms h
      cases h with
      | bcons h1 h2 =>
        rw [h1.starB]
        simp only [List.all_cons, Bool.not_false, Bool.true_and]
        exact ih h2
  have k2 := key h
  unfold backTo
  rw [List.all_map]
  exact k2
theorem CE.base {a : Expr} {m : E} (h : CE T N c sc (.e a) (.e m)) (x : Str) (env : PySem.Env) : attributeBase a x env (eval a env) = eval a env := by
  cases h <;> rfl
theorem CE.baseB {a : Expr} {m : E} (h : CE T N c sc (.b a) (.e m)) (x : Str) (env : PySem.Env) : attributeBase a x env (eval a env) = eval a env := by
  cases h with
  | of h => exact h.base x env
  | bvar _ _ _ => rfl
theorem s_mt (g : GX T N G B Wx cf c sc so X) {x : Str} {b : Bi} {o e : Expr} {mo : E} {es : List Expr} {ms : List E} {p q : Pos} (hb : MtN x b) (hl : (q.endLine == p.line) = true) (hz : es.length < 10) (hco : CE T N c sc (.b o) (.e mo)) (hce : CE T N c sc (.bs (e :: es)) (.es ms))
    (ho : JB G B Wx cf sf X o mo) (ha : PA X (e :: es) (tEsB G B Wx cf sf ms)) : PE X (.Call (.Attribute o x q) (e :: es) [] p) (tE G B Wx cf sf (.mt b mo ms)) := by
  obtain ⟨ty, id, h1, h2, h3, h4, h5⟩ := hb.ok g.op
  have hst : starEach (e :: es) X.env = (false, eval e X.env) :: starEach es X.env ∧ (backTo p (starEach es X.env)).any (·.1) = false := by
    cases hce with
    | bcons h1 h2 => exact ⟨h1.starB _ _, pl_starB p _ h2⟩
  have hfew : ((backTo p (starEach (e :: es) X.env)).all (fun x => !x.1) && (backToKw p (keywordEach [] X.env)).all (fun x => x.1.isSome)
      && decide ((e :: es).length + ([] : List Keyword).length + (if ([] : List Keyword).isEmpty then 0 else 1) < 30)) = true := by
    rw [all_star p _ hce]
    simp only [Bool.true_and, Bool.and_eq_true, decide_eq_true_eq, List.length_cons, List.length_nil]
    exact ⟨rfl, by show es.length + 1 + 0 + 0 < 30; omega⟩
  refine PE.imp (pe_bm h1 h2 h3 h4 ho ha (hco.baseB x _) hfew hl hst.1 hst.2) fun σ H Q ⟨ι, W, M, env, r, hs⟩ => stepB r hs fun v H' ι' d M' r' hd g' h => ?_
  cases hr : recv b (peekR M' d) with
  | false => rw [hr, if_neg (by decide)] at h; exact h.elim
  | true =>
    rw [hr, if_pos rfl] at h
    have hp := r'.peekR hd
    refine ⟨h5 _ _ _ _ _ hr hp, stepEsB r' h fun vs H2 ι2 ds M2 r2 hds g2 h2 => ?_⟩
    obtain ⟨z, ez, qq⟩ := Sat.toPureO r2 h2
    exact ⟨ι2, ι2 ++ W, _, _, z, r2.liveL, DenR.ext (M := M') (M' := M2) (env := env) (σ := σ) b hr hp, hds.r r2, ez, qq⟩
/-! ### calls -/
theorem s_call (g : GX T N G B Wx cf c sc so X) (hc : c = true) {x : Str} {f : Nat} {e : Expr} {es : List Expr} {ms : List E} {p q : Pos} {ds : List D} (hf : T.fns.lookup x = some f) (hg : glb sc x) (hpl : plainN x = true) (hds : ds = (T.dfl f).drop ((T.dfl f).length - ds.length)) (hdl : ds.length ≤ (T.dfl f).length)
    (hn : ms.length + ds.length = T.np f) (hce : CE T N c sc (.es (e :: es)) (.es ms)) (ha : PA X (e :: es) (tEs G B Wx cf sf ms)) : PE X (.Call (.Name x q) (e :: es) [] p) (tE G B Wx cf sf (.call f ms ds)) := by
  obtain ⟨hm, hk, ⟨k, fd, ps, hps, F, hr, hb⟩⟩ := g.fns hc x f hf
  obtain ⟨dvV, dvs, rd, hdd, hbb⟩ := hb ((T.dfl f).length - ds.length) (by omega)
  have hst : starEach (e :: es) X.env = (false, eval e X.env) :: starEach es X.env ∧ (backTo p (starEach es X.env)).any (·.1) = false := by
    cases hce with
    | cons h1 h2 => exact ⟨h1.star _ _, pl_star p _ h2⟩
  refine PE.imp (pe_callSD (E := WE Wx) F hr (g.gl hg) hm hk hbb rd (fun σ => passAt g.tk σ) ha (plain_dbg hpl) hst.1 hst.2) fun σ H Q ⟨ι, W, M, env, r, hs⟩ => stepEs r hs fun v H' ι' d M' r' hd g' hl h => ?_
  have hdd' : Dens G ι' (ι' ++ W) H' ds dvs := by rw [hds]; exact hdd _ _ _
  refine ⟨ι', W, M', d ++ ds, ?_, r'.bare, hd.append hdd', ?_⟩
  · rw [List.length_append, hd.length, hdd'.length, hl]
    exact hn
  · revert h
    cases cf f (d ++ ds) M' with
    | bad => exact fun h => h
    | ok z M2 => exact fun h v2 ι2 H2 r2 hd2 g2 => h v2 ι2 H2 (r'.swap g2 r2 rfl) hd2 g2
    | exc k a M2 => exact fun h dd ι2 H2 r2 x2 g2 => h dd ι2 H2 (r'.swap g2 r2 rfl) x2 g2
/-! ### what is walked -/
/-- an iterator gives ds, as long as what is known at H goes on -/
def WalkD (G : Cfg) (ι C : List Addr) (H : Hp) (J : L2.It) (ds : List D) : Prop :=
  ∃ Gd : Hp → Prop, (∀ ι1 C1 H1, Ext C ι H C1 ι1 H1 → Gd H1) ∧ Walk J ds.length Gd fun i Hc x Hn => (∀ a u, Hc a = some u → Hn a = some u) ∧ ∀ ι1 C1, Ext C ι H C1 ι1 Hc → Live C1 Hc → ∃ d, ds[i]? = some d ∧ Den G ι1 C1 Hn d x
def tI (G : Cfg) (B : Bs) (Wx : WX) (cf : CF) (sf : SF) (m : It) : TI := fun σ H R => ∃ ι W M env, Rel G B ι W M env σ H ∧ match evalI cf sf env m M with
  | .ok ds M' => ∀ J ι' H', Rel G B ι' W M' env σ H' → Grow ι H ι' H' → WalkD G ι' (ι' ++ W) H' J ds → R J H'
  | .exc k act M' => ∀ dd ι' H', Rel G B ι' W M' env σ H' → XAt G ι' (ι' ++ W) H' act dd → Grow ι H ι' H' → Wx (.ref (G.clA k)) (some dd) σ H'
  | .bad => False
/-- the reading by a general form -/
def SatI (G : Cfg) (B : Bs) (Wx : WX) (W : List Addr) (env : Env) (σ : L2.St) (ι : List Addr) (H : Hp) (r : R (List D)) (R : L2.It → Hp → Prop) : Prop := match r with
  | .ok ds M' => ∀ J ι' H', Rel G B ι' W M' env σ H' → Grow ι H ι' H' → WalkD G ι' (ι' ++ W) H' J ds → R J H'
  | .exc k act M' => ∀ dd ι' H', Rel G B ι' W M' env σ H' → XAt G ι' (ι' ++ W) H' act dd → Grow ι H ι' H' → Wx (.ref (G.clA k)) (some dd) σ H'
  | .bad => False
theorem SatI.later {W : List Addr} {env : Env} {σ : L2.St} {ι ι1 : List Addr} {H H1 : Hp} {r : R (List D)} {R : L2.It → Hp → Prop} (g : Grow ι H ι1 H1) (h : SatI G B Wx W env σ ι H r R) : SatI G B Wx W env σ ι1 H1 r R := by
  cases r with
  | ok d M' => exact fun J ι' H' r' g' w => h J ι' H' r' (g.trans g') w
  | exc c act M' => exact fun dd ι' H' r' x' g' => h dd ι' H' r' x' (g.trans g')
  | bad => exact h
theorem stepI {m : E} {σ : L2.St} {H : Hp} {ι W : List Addr} {M : Mem} {env : Env} {f : D → Mem → R (List D)} {R : L2.It → Hp → Prop} {K : VK} (r : Rel G B ι W M env σ H) (hs : SatI G B Wx W env σ ι H ((evalE cf sf env m M).bind f) R)
    (k : ∀ v H' ι' d M', Rel G B ι' W M' env σ H' → Den G ι' (ι' ++ W) H' d v → Grow ι H ι' H' → SatI G B Wx W env σ ι' H' (f d M') R → K v H') : tE G B Wx cf sf m σ H K := by
  refine ⟨ι, W, M, env, r, ?_⟩
  revert hs
  cases evalE cf sf env m M with
  | bad => exact fun hs => hs
  | exc c a M' => exact fun hs => hs
  | ok d M' => exact fun hs v ι' H' r' hd g => k v H' ι' d M' r' hd g (hs.later g)
theorem PI.imp {tg x : Expr} {w w' : TI} (h : PI X tg x w) (i : ∀ σ H R, w' σ H R → w σ H R) : PI X tg x w' := ⟨fun pins s σ H R I hw => h.run pins s σ H R I (i _ _ _ hw)⟩
theorem PI.or {tg x : Expr} {w w' : TI} (h : PI X tg x w) (h' : PI X tg x w') : PI X tg x (fun σ H R => w σ H R ∨ w' σ H R) := ⟨fun pins s σ H R I hw => by
  rcases hw with hw | hw
  · exact h.run pins s σ H R I hw
  · exact h'.run pins s σ H R I hw⟩
theorem walkD_list {ι C : List Addr} {H : Hp} {a : Addr} {vs : List V} {ds : List D} (n : a ∉ C) (e : H a = some (.lst vs)) (h : Dens G ι C H ds vs) : WalkD G ι C H (Itl G.K a) ds := by
  refine ⟨fun H1 => H1 a = some (.lst vs), fun ι1 C1 H1 x => x.keep _ _ e n, ?_⟩
  rw [← h.length]
  refine (walk_list (K := G.K) (a := a) (xs := vs)).mono (fun H1 q => SqL.of q) fun i H1 x H2 hi q y => ?_
  obtain ⟨rfl, y⟩ := y
  refine ⟨fun _ _ z => z, fun ι1 C1 x1 l1 => ?_⟩
  obtain ⟨d, e1, e2⟩ := (h.ext x1).getV y
  exact ⟨d, e1, e2⟩
theorem walkD_frz {ι C : List Addr} {H : Hp} {a : Addr} {vs : List V} {ds : List D} (e : FrzAt G C H a vs) (h : Dens G ι C H ds vs) : WalkD G ι C H (Itl G.K a) ds := by
  refine ⟨fun H1 => SqL G.K H1 a vs, fun ι1 C1 H1 x => (e.ext x).sq, ?_⟩
  rw [← h.length]
  refine (walk_list (K := G.K) (a := a) (xs := vs)).mono (fun H1 q => q) fun i H1 x H2 hi q y => ?_
  obtain ⟨rfl, y⟩ := y
  refine ⟨fun _ _ z => z, fun ι1 C1 x1 l1 => ?_⟩
  obtain ⟨d, e1, e2⟩ := (h.ext x1).getV y
  exact ⟨d, e1, e2⟩
theorem walkD_tup {ι C : List Addr} {H : Hp} {a : Addr} {vs : List V} {ds : List D} (e : TupAt G C H a vs) (h : Dens G ι C H ds vs) : WalkD G ι C H (Itt G.K a) ds := by
  refine ⟨fun H1 => SqT G.K H1 a vs, fun ι1 C1 H1 x => (e.ext x).sq, ?_⟩
  rw [← h.length]
  refine (walk_tup (K := G.K) (a := a) (xs := vs)).mono (fun H1 q => q) fun i H1 x H2 hi q y => ?_
  obtain ⟨rfl, y⟩ := y
  refine ⟨fun _ _ z => z, fun ι1 C1 x1 l1 => ?_⟩
  obtain ⟨d, e1, e2⟩ := (h.ext x1).getV y
  exact ⟨d, e1, e2⟩
theorem walkD_str {ι C : List Addr} {H : Hp} (s : List Nat) : WalkD G ι C H (Its (sOf s)) (s.map fun c => .str [c]) := by
  refine ⟨fun _ => True, fun _ _ _ _ => trivial, ?_⟩
  have e : (s.map fun c => D.str [c]).length = (sOf s).cps.size := by simp [sOf]
  rw [e]
  refine (walk_str (z := sOf s)).mono (fun H1 q => q) fun i H1 x H2 hi q y => ?_
  obtain ⟨rfl, c, hc, rfl⟩ := y
  refine ⟨fun _ _ z => z, fun ι1 C1 x1 l1 => ⟨.str [c], ?_, rfl⟩⟩
  have : s[i]? = some c := by simpa [sOf] using hc
  simp [this]
theorem walkD_range {ι C : List Addr} {H : Hp} (lo : Int) (n : Nat) : WalkD G ι C H (Itr lo n) (rangeL lo n) := by
  refine ⟨fun _ => True, fun _ _ _ _ => trivial, ?_⟩
  have e : (rangeL lo n).length = n := by simp [rangeL]
  rw [e]
  refine walk_range.mono (fun H1 q => q) fun i H1 x H2 hi q y => ?_
  obtain ⟨rfl, rfl⟩ := y
  refine ⟨fun _ _ z => z, fun ι1 C1 x1 l1 => ⟨.int (lo + i), ?_, rfl⟩⟩
  simp [rangeL, hi]
/-- enumerate of a list that is known -/
theorem walkD_enum {ι C : List Addr} {H : Hp} {a : Addr} {vs : List V} {ds : List D} (k : ∀ ι1 C1 H1, Ext C ι H C1 ι1 H1 → SqL G.K H1 a vs) (h : Dens G ι C H ds vs) : WalkD G ι C H (Ite G.K a) (enumL ds) := by
  refine ⟨fun H1 => SqL G.K H1 a vs, fun ι1 C1 H1 x => k _ _ _ x, ?_⟩
  have e : (enumL ds).length = vs.length := by rw [h.length]; simp [enumL]
  rw [e]
  refine (walk_enum (K := G.K) (a := a) (xs := vs)).mono (fun H1 q => q) fun i H1 x H2 hi q y => ?_
  obtain ⟨t, u, v, rfl, n, rfl, e1, e2⟩ := y
  refine ⟨keep_upd n, fun ι1 C1 x1 l1 => ?_⟩
  obtain ⟨d, e3, hd⟩ := (h.ext x1).getV e2
  cases e1
  refine ⟨.tup [.int (i : Nat), d], by simp [enumL, e3], t, [.int (i : Nat), v], rfl, .inl ⟨l1.out n, upd_same⟩, ?_⟩
  exact ⟨_, _, rfl, rfl, _, _, rfl, hd.ext (ext_keep (keep_upd n)), rfl⟩
theorem s_iof (g : GX T N G B Wx cf c sc so X) {tg e : Expr} {m : E} (h : JE G B Wx cf sf X e m) : PI X tg e (tI G B Wx cf sf (.of m)) := by
  refine PI.imp (PI.or (pi_list h.1) (PI.or (pi_tup h.1) (pi_str h.1))) fun σ H R ⟨ι, W, M, env, r, hs⟩ => ?_
  have hs1 : SatI G B Wx W env σ ι H ((evalE cf sf env m M).bind fun x m1 => Mini.R.of (itemsOf x) m1) R := hs
  cases hv : evalE cf sf env m M with
  | bad => rw [hv] at hs1; exact hs1.elim
  | exc k a M' =>
    rw [hv] at hs1
    exact .inl ⟨ι, W, M, env, r, by rw [hv]; exact hs1⟩
  | ok d M' =>
    rw [hv, Mini.R.bind_ok] at hs1
    have go : ∀ (K : VK), (∀ v ι' H', Rel G B ι' W M' env σ H' → Den G ι' (ι' ++ W) H' d v → Grow ι H ι' H' → K v H') → tE G B Wx cf sf m σ H K := fun K k => ⟨ι, W, M, env, r, by rw [hv]; exact k⟩
    cases d with
    | lst ds =>
      refine .inl (go _ fun v ι' H' r' hd g' => ?_)
      obtain ⟨a, vs, rfl, n, e1, e2⟩ := hd
      exact ⟨a, rfl, ⟨vs, SqL.of e1⟩, by rw [g.hK]; exact hs1 _ ι' H' r' g' (walkD_list n e1 e2)⟩
    | tup ds =>
      refine .inr (.inl (go _ fun v ι' H' r' hd g' => ?_))
      obtain ⟨a, vs, rfl, e1, e2⟩ := hd
      exact ⟨a, rfl, ⟨vs, by rw [g.hK]; exact e1.sq⟩, by rw [g.hK]; exact hs1 _ ι' H' r' g' (walkD_tup e1 e2)⟩
    | str s =>
      refine .inr (.inr (go _ fun v ι' H' r' hd g' => ?_))
      exact ⟨sOf s, hd, hs1 _ ι' H' r' g' (walkD_str s)⟩
    | frz ds =>
      refine .inl (go _ fun v ι' H' r' hd g' => ?_)
      obtain ⟨a, vs, rfl, e1, e2⟩ := hd
      exact ⟨a, rfl, ⟨vs, by rw [g.hK]; exact e1.sq⟩, by rw [g.hK]; exact hs1 _ ι' H' r' g' (walkD_frz e1 e2)⟩
    | _ => exact hs1.elim
theorem s_irange (g : GX T N G B Wx cf c sc so X) {tg e : Expr} {m : E} {p q : Pos} (hx : ("range" : Str) ∈ T.fre) (hg : glb sc "range") (hce : CE T N c sc (.e e) (.e m)) (h : JE G B Wx cf sf X e m) : PI X tg (.Call (.Name "range" q) [e] [] p) (tI G B Wx cf sf (.range1 m)) := by
  refine PI.imp (pi_range1 (g.gl hg) (g.fre _ hx) (pa_cons h.1 pa_nil (hce.star _ _)) (hce.star _ _)) fun σ H R ⟨ι, W, M, env, r, hs⟩ => ?_
  refine stepI (f := fun x m1 => match x with | .int j => if -(2 ^ 62) ≤ j ∧ j < 2 ^ 62 then .ok (rangeL 0 j.toNat) m1 else .bad | _ => .bad) (R := R) r hs fun v H' ι' d M' r' hd g' h => ?_
  cases d with
  | int j =>
    have h' : SatI G B Wx W env σ ι' H' (if -(2 ^ 62) ≤ j ∧ j < 2 ^ 62 then Mini.R.ok (rangeL 0 j.toNat) M' else .bad) R := h
    by_cases c : -(2 ^ 62) ≤ j ∧ j < 2 ^ 62
    · rw [if_pos c] at h'
      exact ⟨j, by rw [show v = _ from hd], c.1, c.2, h' _ ι' H' r' Grow.refl (walkD_range 0 _)⟩
    · rw [if_neg c] at h'
      exact h'.elim
  | _ => exact h.elim
theorem s_ienum (g : GX T N G B Wx cf c sc so X) {xs : List Expr} {k : Nat} {u : Pos} {e : Expr} {m : E} {p q : Pos} (hx : ("enumerate" : Str) ∈ T.fre) (hg : glb sc "enumerate") (hce : CE T N c sc (.e e) (.e m)) (h : JE G B Wx cf sf X e m) : PI X (.Tuple xs k u) (.Call (.Name "enumerate" q) [e] [] p) (tI G B Wx cf sf (.enum m)) := by
  refine PI.imp (pi_enum (g.gl hg) (g.fre _ hx) (pa_cons h.1 pa_nil (hce.star _ _)) (hce.star _ _)) fun σ H R ⟨ι, W, M, env, r, hs⟩ => ?_
  refine stepI (f := fun x m1 => match x with | .lst ds => .ok (enumL ds) m1 | .frz ds => .ok (enumL ds) m1 | _ => .bad) (R := R) r hs fun v H' ι' d M' r' hd g' h => ?_
  cases d with
  | lst ds =>
    obtain ⟨a, vs, rfl, n, e1, e2⟩ := hd
    exact ⟨a, vs, rfl, SqL.of e1, by rw [g.hK]; exact h _ ι' H' r' Grow.refl (walkD_enum (fun ι1 C1 H1 x => SqL.of (x.keep _ _ e1 n)) e2)⟩
  | frz ds =>
    obtain ⟨a, vs, rfl, e1, e2⟩ := hd
    exact ⟨a, vs, rfl, by rw [g.hK]; exact e1.sq, by rw [g.hK]; exact h _ ι' H' r' Grow.refl (walkD_enum (fun ι1 C1 H1 x => (e1.ext x).sq) e2)⟩
  | _ => exact h.elim
end
end Mini

/-! Comprehensions; every expression. -/
namespace Mini
open PySem PySem.Spec PyProof.Rows L2
section
variable {G : Cfg} {B B' : Bs} {ι ι' ι1 ι2 C C1 C2 W W' : List Addr} {H H' H1 H2 : Hp} {M M' M1 : Mem} {env env' : Env} {σ σ' : L2.St} {d : D} {p : Addr} {o : HO}
theorem Ext.trans (x : Ext C ι H C1 ι1 H1) (y : Ext C1 ι1 H1 C2 ι2 H2) : Ext C ι H C2 ι2 H2 where
  pre := x.pre.trans y.pre
  keep := fun a u h n => y.keep a u (x.keep a u h n) (x.out h n)
  new := fun a m => by
    rcases y.new a m with z | z
    · exact x.new a z
    · by_cases n : a ∈ C
      · exact .inl n
      · refine .inr ?_
        cases q : H a with
        | none => rfl
        | some u => rw [x.keep a u q n] at z; cases z
theorem Rel.noB (r : Rel G B ι W M env σ H) (n : H p = none) : B.H p = none := by
  cases q : B.H p with
  | none => rfl
  | some u =>
    by_cases m : p ∈ B.ι
    · obtain ⟨t, e⟩ := r.base.pre
      obtain ⟨v, e2⟩ := r.live p (List.mem_append_left _ (by rw [← e]; exact List.mem_append_left _ m))
      rw [n] at e2; cases e2
    · rw [r.base.keep p u q m] at n; cases n
theorem Rel.noBW (r : Rel G B ι W M env σ H) (n : H p = none) : p ∉ B.W := fun m => by
  obtain ⟨v, e⟩ := r.live p (List.mem_append_right _ (r.wsub p m))
  rw [n] at e; cases e
theorem ext_new (n : H p = none) : Ext (ι ++ W) ι H (ι ++ p :: W) ι (upd H p o) where
  pre := List.prefix_refl _
  keep := fun a u h _ => keep_upd n a u h
  new := fun a m => by
    rcases List.mem_append.mp m with z | z
    · exact .inl (List.mem_append_left _ z)
    · rcases List.mem_cons.mp z with z | z
      · exact .inr (by rw [z]; exact n)
      · exact .inl (List.mem_append_right _ z)
theorem ext_wr (m : p ∈ C) : Ext C ι H C ι (upd H p o) where
  pre := List.prefix_refl _
  keep := fun a u h n => by rw [upd_ne (fun e => n (by rw [e]; exact m))]; exact h
  new := fun a z => .inl z
/-- a new object of one's own -/
theorem Rel.addOwn (r : Rel G B ι W M env σ H) (n : H p = none) : Rel G B ι (p :: W) M env σ (upd H p o) where
  len := r.len
  nd := r.nd
  dis := fun a m => by
    rcases List.mem_cons.mp m with z | z
    · rw [z]; exact fun q => r.fresh n (List.mem_append_left _ q)
    · exact r.dis a z
  live := fun a m => by
    by_cases e : a = p
    · rw [e]; exact ⟨_, upd_same⟩
    · rcases List.mem_append.mp m with z | z
      · obtain ⟨u, q⟩ := r.live a (List.mem_append_left _ z)
        exact ⟨u, keep_upd n a u q⟩
      · rcases List.mem_cons.mp z with z | z
        · exact (e z).elim
        · obtain ⟨u, q⟩ := r.live a (List.mem_append_right _ z)
          exact ⟨u, keep_upd n a u q⟩
  cells := fun k c a e1 e2 => (r.cells k c a e1 e2).ext (ext_new n) (keep_upd n a)
  slots := fun i s e => by
    obtain ⟨v, e1, h⟩ := r.slots i s e
    refine ⟨v, e1, ?_⟩
    cases s with
    | val d => exact Den.ext (ext_new n) h
    | own d =>
      obtain ⟨a, e, m, nb, q⟩ := h
      exact ⟨a, e, List.mem_cons_of_mem _ m, nb, q.ext (ext_new n) (keep_upd n a)⟩
    | exn c act =>
      obtain ⟨ea, dd, av, e1, e2, e3, m, q⟩ := h
      exact ⟨ea, dd, av, e1, e2, keep_upd n _ _ e3, (ext_new (o := o) n).out e3 m, q.ext (ext_new n)⟩
  owns := r.owns
  sl := r.sl
  base := r.base.trans (Grow.of_keep (keep_upd n))
  wnew := fun a m => by
    rcases List.mem_cons.mp m with z | z
    · exact .inr (by rw [z]; exact r.noB n)
    · exact r.wnew a z
  wsub := fun a m => List.mem_cons_of_mem _ (r.wsub a m)
/-- an object of one's own is written -/
theorem Rel.wr (r : Rel G B ι W M env σ H) (m : p ∈ W) (hB : B.H p = none) (own : ∀ (i : Nat) (d : D) (v : V), env[i]? = some (some (.own d)) → σ[i]? = some (some v) → v ≠ .ref p) : Rel G B ι W M env σ (upd H p o) := by
  have E : Ext (ι ++ W) ι H (ι ++ W) ι (upd H p o) := ext_wr (List.mem_append_right _ m)
  have ne : ∀ a, a ≠ p → ∀ u, H a = some u → upd H p o a = some u := fun a n u h => by rw [upd_ne n]; exact h
  refine ⟨r.len, r.nd, r.dis, fun a z => ?_, fun k c a e1 e2 => ?_, fun i s e => ?_, r.owns, r.sl, ⟨r.base.pre, fun a u h n => ?_, r.base.new⟩, r.wnew, r.wsub⟩
  · by_cases e : a = p
    · rw [e]; exact ⟨_, upd_same⟩
    · obtain ⟨u, q⟩ := r.live a z
      exact ⟨u, ne a e u q⟩
  · refine (r.cells k c a e1 e2).ext E (ne a fun e => r.dis p m ?_)
    rw [← e]
    exact List.mem_of_getElem? e2
  · obtain ⟨v, e1, h⟩ := r.slots i s e
    refine ⟨v, e1, ?_⟩
    cases s with
    | val d => exact Den.ext E h
    | own d =>
      obtain ⟨a, e2, m2, nb, q⟩ := h
      refine ⟨a, e2, m2, nb, q.ext E (ne a fun z => own i d v e e1 ?_)⟩
      rw [e2, z]
    | exn c act =>
      obtain ⟨ea, dd, av, e1, e2, e3, m, q⟩ := h
      exact ⟨ea, dd, av, e1, e2, E.keep _ _ e3 m, m, q.ext E⟩
  · rw [upd_ne (fun e => by rw [e, hB] at h; cases h)]
    exact r.base.keep a u h n
theorem ext_drop : Ext (ι ++ p :: W) ι H (ι ++ W) ι H where
  pre := List.prefix_refl _
  keep := fun _ _ h _ => h
  new := fun a m => .inl (by
    rcases List.mem_append.mp m with z | z
    · exact List.mem_append_left _ z
    · exact List.mem_append_right _ (List.mem_cons_of_mem _ z))
/-- an object is no longer one's own -/
theorem Rel.dropOwn (r : Rel G B ι (p :: W) M env σ H) (hB : p ∉ B.W) (own : ∀ (i : Nat) (d : D) (v : V), env[i]? = some (some (.own d)) → σ[i]? = some (some v) → v ≠ .ref p) : Rel G B ι W M env σ H where
  len := r.len
  nd := r.nd
  dis := fun a m => r.dis a (List.mem_cons_of_mem _ m)
  live := fun a m => r.live a (by
    rcases List.mem_append.mp m with z | z
    · exact List.mem_append_left _ z
    · exact List.mem_append_right _ (List.mem_cons_of_mem _ z))
  cells := fun k c a e1 e2 => (r.cells k c a e1 e2).ext ext_drop fun _ h => h
  slots := fun i s e => by
    obtain ⟨v, e1, h⟩ := r.slots i s e
    refine ⟨v, e1, ?_⟩
    cases s with
    | val d => exact Den.ext ext_drop h
    | own d =>
      obtain ⟨a, e2, m, nb, q⟩ := h
      refine ⟨a, e2, ?_, nb, q.ext ext_drop fun _ h => h⟩
      rcases List.mem_cons.mp m with z | z
      · exact (own i d v e e1 (by rw [e2, z])).elim
      · exact z
    | exn c act =>
      obtain ⟨ea, dd, av, e1, e2, e3, m, q⟩ := h
      exact ⟨ea, dd, av, e1, e2, e3, ext_drop.out e3 m, q.ext ext_drop⟩
  owns := r.owns
  sl := r.sl
  base := r.base
  wnew := fun a m => r.wnew a (List.mem_cons_of_mem _ m)
  wsub := fun a m => by
    rcases List.mem_cons.mp (r.wsub a m) with z | z
    · exact (hB (by rw [← z]; exact m)).elim
    · exact z
/-- the own objects of names are none that is new -/
theorem Rel.ownNe (r : Rel G B ι W M env σ H) (n : H p = none) : ∀ (i : Nat) (d : D) (v : V), env[i]? = some (some (.own d)) → σ[i]? = some (some v) → v ≠ .ref p := fun i d v e e1 z => by
  obtain ⟨w, e2, a, e3, m, _, _⟩ := r.slots i _ e
  rw [e1] at e2
  cases e2
  rw [z] at e3
  cases e3
  obtain ⟨u, q⟩ := r.live p (List.mem_append_right _ m)
  rw [n] at q; cases q
/-! ### targets -/
def setAll : L2.St → List Nat → List V → L2.St
  | σ, i :: is, v :: vs => setAll (σ.set i (some v)) is vs
  | σ, _, _ => σ
def gT (K : PySem.W.Frag) (t : Tg) : TG := fun v σ H Q => match t with
  | .nm i => Q (σ.set i (some v)) H
  | .tp is => ∃ a xs, v = .ref a ∧ SqT K H a xs ∧ xs.length = is.length ∧ Q (setAll σ is xs) H
theorem PG.imp {X : Cx} {e : Expr} {t t' : TG} (h : PG X e t) (i : ∀ v σ H Q, t' v σ H Q → t v σ H Q) : PG X e t' := ⟨fun pins s σ H v u Q I r hw => h.run pins s σ H v u Q I r (i _ _ _ _ hw)⟩
theorem PGs.imp {X : Cx} {e : List Expr} {t t' : TGs} (h : PGs X e t) (i : ∀ v σ H Q, t' v σ H Q → t v σ H Q) : PGs X e t' := ⟨fun pins s σ H v u Q I r hw => h.run pins s σ H v u Q I r (i _ _ _ _ hw)⟩
theorem setAll_congr : ∀ {is : List Nat} {xs : List V} {σ τ : L2.St}, xs.length = is.length → σ.length = τ.length → (∀ j, j ∉ is → σ[j]? = τ[j]?) → setAll σ is xs = setAll τ is xs
  | [], _, σ, τ, _, hl, h => by
    unfold setAll
    exact List.ext_getElem? fun j => h j (by simp)
  | i :: is, [], _, _, hx, _, _ => by simp at hx
  | i :: is, x :: xs, σ, τ, hx, hl, h => by
    unfold setAll
    refine setAll_congr (by simpa using hx) (by simpa using hl) fun j hj => ?_
    by_cases e : i = j
    · subst e
      by_cases hb : i < σ.length
      · rw [List.getElem?_set_self hb, List.getElem?_set_self (by omega)]
      · rw [List.getElem?_eq_none (by simp; omega), List.getElem?_eq_none (by simp; omega)]
    · rw [List.getElem?_set_ne e, List.getElem?_set_ne e]
      exact h j fun m => by
        rcases List.mem_cons.mp m with z | z
        · exact e z.symm
        · exact hj z
theorem wipe_out' {σ : L2.St} {j : Nat} : ∀ {vs : List Nat}, j ∉ vs → (wipe σ vs)[j]? = σ[j]?
  | [], _ => rfl
  | v :: vs, h => by
    unfold wipe
    rw [List.getElem?_set_ne (fun e => h (by rw [e]; exact List.mem_cons_self ..))]
    exact wipe_out' fun m => h (List.mem_cons_of_mem _ m)
theorem wipe_in {j : Nat} : ∀ {vs : List Nat} {σ τ : L2.St}, σ.length = τ.length → (∀ j, j ∉ vs → σ[j]? = τ[j]?) → wipe σ vs = wipe τ vs
  | [], σ, τ, _, h => List.ext_getElem? fun j => h j (by simp)
  | v :: vs, σ, τ, hl, h => by
    refine List.ext_getElem? fun j => ?_
    by_cases hj : j ∈ v :: vs
    · have key : ∀ (vs : List Nat) (ρ : L2.St), j ∈ vs → j < ρ.length → (wipe ρ vs)[j]? = some none := by
        intro vs
        induction vs with
        | nil => intro ρ hm; simp at hm
        | cons w ws ih =>
          intro ρ hm hb
          unfold wipe
          by_cases e : w = j
          · subst e
            rw [List.getElem?_set_self (by rw [wipe_length]; exact hb)]
          · rw [List.getElem?_set_ne e]
            exact ih ρ ((List.mem_cons.mp hm).resolve_left fun z => e z.symm) hb
      by_cases hb : j < σ.length
      · rw [key _ σ hj hb, key _ τ hj (by omega)]
      · rw [List.getElem?_eq_none (by rw [wipe_length]; omega), List.getElem?_eq_none (by rw [wipe_length]; omega)]
    · rw [wipe_out' hj, wipe_out' hj]
      exact h j hj
theorem setAll_length : ∀ (is : List Nat) (xs : List V) (σ : L2.St), (setAll σ is xs).length = σ.length
  | [], _, _ => rfl
  | i :: is, [], _ => rfl
  | i :: is, x :: xs, σ => by
    unfold setAll
    rw [setAll_length is xs, List.length_set]
theorem setAll_out : ∀ {is : List Nat} {xs : List V} {σ : L2.St} {j : Nat}, j ∉ is → (setAll σ is xs)[j]? = σ[j]?
  | [], _, _, _, _ => rfl
  | i :: is, [], _, _, _ => rfl
  | i :: is, x :: xs, σ, j, h => by
    unfold setAll
    rw [setAll_out fun m => h (List.mem_cons_of_mem _ m), List.getElem?_set_ne fun e => h (by rw [e]; exact List.mem_cons_self ..)]
theorem Rel.putAll : ∀ {is : List Nat} {ds : List D} {xs : List V} {env env' : Env} {σ : L2.St}, Rel G B ι W M env σ H → (∀ i ∈ is, i < B.n) → Dens G ι (ι ++ W) H ds xs → Mini.putAll is ds env = some env' → Rel G B ι W M env' (setAll σ is xs) H ∧ xs.length = is.length
  | [], [], xs, env, env', σ, r, _, h, e => by
    cases e
    rw [show xs = [] from h]
    exact ⟨r, rfl⟩
  | i :: is, d :: ds, xs, env, env', σ, r, hi, h, e => by
    obtain ⟨v, t, rfl, h1, h2⟩ := h
    have := Rel.putAll (r.set1 (hi i (List.mem_cons_self ..)) h1) (fun j m => hi j (List.mem_cons_of_mem _ m)) h2 e
    exact ⟨this.1, by rw [List.length_cons, List.length_cons, this.2]⟩
  | [], _ :: _, _, _, _, _, _, _, _, e => by cases e
  | _ :: _, [], _, _, _, _, _, _, _, e => by cases e
/-- a target takes a value -/
theorem bind_ok {t : Tg} {v : V} {K : L2.St → Hp → Prop} (r : Rel G B ι W M env σ H) (hd : Den G ι (ι ++ W) H d v) (hi : ∀ i ∈ t.slots, i < B.n) (e : bindT t d env = some env')
    (k : ∀ σ2, Rel G B ι W M env' σ2 H → (∀ j, j ∉ t.slots → σ2[j]? = σ[j]?) → K σ2 H) : gT G.K t v σ H K := by
  cases t with
  | nm i =>
    cases e
    exact k _ (r.set1 (hi i (by simp [Tg.slots])) hd) fun j hj => List.getElem?_set_ne fun z => hj (by simp [Tg.slots, z])
  | tp is =>
    obtain ⟨ds, e1, e2⟩ := Option.bind_eq_some_iff.mp (show (tupItems d).bind (fun ds => Mini.putAll is ds env) = some env' from e)
    cases d <;> first
      | (cases e1; done)
      | skip
    cases e1
    obtain ⟨a, xs, rfl, t, hs⟩ := hd
    obtain ⟨r2, hl⟩ := r.putAll hi hs e2
    exact ⟨a, xs, rfl, t.sq, hl, k _ r2 fun j hj => setAll_out hj⟩
theorem bind_ok_wiped {t : Tg} {v : V} {K : L2.St → Hp → Prop} (r : Rel G B ι W M env σ H) (hd : Den G ι (ι ++ W) H d v) (hi : ∀ i ∈ t.slots, i < B.n) (e : bindT t d env = some env')
    (k : ∀ σ2, Rel G B ι W M env' σ2 H → wipe σ2 t.slots = wipe σ t.slots → K σ2 H) : gT G.K t v (wipe σ t.slots) H K := by
  have h := bind_ok (K := fun σ2 _ => Rel G B ι W M env' σ2 H ∧ (∀ j, j ∉ t.slots → σ2[j]? = σ[j]?)) r hd hi e fun σ2 r2 h => ⟨r2, h⟩
  cases t with
  | nm i =>
    obtain ⟨r2, h⟩ := (show Rel G B ι W M env' (σ.set i (some v)) H ∧ _ from h)
    have e2 : (wipe σ [i]).set i (some v) = σ.set i (some v) := by
      show (σ.set i none).set i (some v) = _
      rw [List.set_set]
    show K ((wipe σ [i]).set i (some v)) H
    rw [e2]
    exact k _ r2 (wipe_in (j := 0) (by simp) h)
  | tp is =>
    obtain ⟨a, xs, e1, q, hl, r2, h⟩ := h
    refine ⟨a, xs, e1, q, hl, ?_⟩
    have e2 : setAll (wipe σ is) is xs = setAll σ is xs := setAll_congr hl (wipe_length _ _) fun j hj => wipe_out' hj
    show K (setAll (wipe σ is) is xs) H
    rw [e2]
    exact k _ r2 (wipe_in (j := 0) (setAll_length _ _ _) h)
end
section
variable {T : Tb} {N : List Str} {G : Cfg} {B : Bs} {Wx : WX} {cf : CF} {sf : SF} {c : Bool} {sc so : Scope} {X : Cx}
def gNames : List Nat → TGs
  | [] => gNil
  | i :: is => gCons (gName i) (gNames is)
theorem gNames_ok : ∀ {is : List Nat} {xs : List V} {σ : L2.St} {H : Hp} {Q : L2.St → Hp → Prop}, xs.length = is.length → Q (setAll σ is xs) H → gNames is xs σ H Q
  | [], [], _, _, _, _, q => ⟨rfl, q⟩
  | i :: is, x :: xs, σ, H, Q, hl, q => ⟨x, xs, rfl, gNames_ok (by simpa using hl) q⟩
  | [], _ :: _, _, _, _, hl, _ => by simp at hl
  | _ :: _, [], _, _, _, hl, _ => by simp at hl
theorem s_nmT (g : GX T N G B Wx cf c sc so X) {x : Str} {i : Nat} {p : Pos} (h1 : N[i]? = some x) (h2 : Loc so x) : PG X (.Name x p) (gName i) :=
  pg_name (by rw [g.hN]; exact g.nd) (g.ix h1) (g.loc x h2).1 (g.loc x h2).2
theorem each_names (env : PySem.Env) : ∀ xs : List (Str × Pos), ((assignEach (xs.map fun x => Expr.Name x.1 x.2) env).length = xs.length ∧ (assignEach (xs.map fun x => Expr.Name x.1 x.2) env).findIdx? (·.1) = none)
  | [] => ⟨rfl, rfl⟩
  | x :: xs => by
    obtain ⟨h1, h2⟩ := each_names env xs
    have e : assignEach ((x :: xs).map fun x => Expr.Name x.1 x.2) env = (false, assign (.Name x.1 x.2) env) :: assignEach (xs.map fun x => Expr.Name x.1 x.2) env := rfl
    rw [e]
    refine ⟨by rw [List.length_cons, h1, List.length_cons], ?_⟩
    rw [List.findIdx?_cons]
    simp [h2]
theorem s_namesT (g : GX T N G B Wx cf c sc so X) : ∀ (xs : List (Str × Pos)) (is : List Nat), is.length = xs.length → (∀ (j : Nat) (i : Nat) (x : Str × Pos), is[j]? = some i → xs[j]? = some x → N[i]? = some x.1 ∧ Loc so x.1) → PGs X (xs.map fun x => .Name x.1 x.2) (gNames is)
  | [], [], _, _ => pgs_nil
  | x :: xs, i :: is, hl, h => by
    have h0 := h 0 i x rfl rfl
    exact pgs_cons (s_nmT g h0.1 h0.2) (s_namesT g xs is (by simpa using hl) fun j k y e1 e2 => h (j + 1) k y (by simpa using e1) (by simpa using e2))
  | [], _ :: _, hl, _ => by simp at hl
  | _ :: _, [], hl, _ => by simp at hl
theorem s_T (g : GX T N G B Wx cf c sc so X) (hc : X.calm = true) {tg : Expr} {t : Tg} (h : CT N so tg t) : PG X tg (gT X.K t) := by
  cases h with
  | nm h1 h2 => exact s_nmT g h1 h2
  | @tp xs is k p hl h =>
    have e := each_names X.env xs
    exact PG.imp (pg_tup hc (s_namesT g xs is hl h) e.1 e.2) fun v σ H Q ⟨a, ys, e1, q, hl2, hq⟩ => ⟨a, ys, e1, q, by rw [hl2, hl], gNames_ok hl2 hq⟩
theorem CT.inN {tg : Expr} {t : Tg} (h : CT N sc tg t) : ∀ i ∈ t.slots, i < N.length := by
  cases h with
  | nm h1 h2 =>
    intro i hi
    rw [show i = _ from List.mem_singleton.mp hi]
    exact (List.getElem?_eq_some_iff.mp h1).1
  | @tp xs is k p hl h =>
    intro i hi
    obtain ⟨j, hj, e⟩ := List.getElem_of_mem (show i ∈ is from hi)
    have := h j i (xs[j]'(by rw [← hl]; exact hj)) (by rw [List.getElem?_eq_getElem hj, e]) (List.getElem?_eq_getElem _)
    exact (List.getElem?_eq_some_iff.mp this.1).1
/-- a comprehension's block is a context too -/
theorem GX.blk (g : GX T N G B Wx cf true sc so X) (s : Shared) (H : Hp) (scope : Scope) (C : Addr) (cl : List (Str × Addr)) (fp : List Addr)   : GX T N G B (fun _ _ _ _ => False) cf true (relS scope sc) scope (X.blk s H scope (compEnvC scope cl C X.env) fp) where
  hK := g.hK
  hN := g.hN
  nd := g.nd
  hsc := by rw [← g.hsc]; rfl
  un := g.un
  calm := g.calm
  fre := g.fre
  con := g.con
  fns := fun hc x f h => let ⟨a, b, ⟨q⟩⟩ := g.fns hc x f h; ⟨a, b, ⟨q⟩⟩
  loc := fun x h => by
    have e : (X.blk s H scope (compEnvC scope cl C X.env) fp).env.scope = relS scope sc := by rw [← g.hsc]; rfl
    rw [e]
    rcases h with h | h
    · exact ⟨.inl (lookup_relS_keep (by decide) h), .inr (lookup_relS_keep (by decide) h)⟩
    · refine ⟨.inr (lookup_relS_keep (by decide) h), .inl ?_⟩
      show (scope.names.lookup x == some .cell) = true
      rw [h]
      rfl
  tk := fun u s' ⟨a, b, sI, pins, σ, H, cls, d, _, _, _, _, _, _, _, _, w⟩ => w.elim
  bn := g.bn
  cls := g.cls
  xis := fun h => by cases h
  xac := fun h => by cases h
theorem lcGo_cons {step : D → Mem → R (Option D)} {d : D} {ds rs : List D} {M Mf : Mem} (h : lcGo step (d :: ds) M = .ok rs Mf) : ∃ o M1 r, step d M = .ok o M1 ∧ lcGo step ds M1 = .ok r Mf ∧ rs = match o with | some x => x :: r | none => r := by
  unfold lcGo at h
  cases h1 : step d M with
  | ok o M1 =>
    rw [h1, R.bind_ok] at h
    cases h2 : lcGo step ds M1 with
    | ok r M2 =>
      rw [h2, R.bind_ok] at h
      cases h
      exact ⟨o, M1, r, rfl, h2, rfl⟩
    | exc _ _ _ => rw [h2] at h; cases h
    | bad => rw [h2] at h; cases h
  | exc _ _ _ => rw [h1] at h; cases h
  | bad => rw [h1] at h; cases h
end
end Mini

/-! Comprehensions; every expression. -/
namespace Mini
open PySem PySem.Spec PyProof.Rows L2
section
variable {T : Tb} {N : List Str} {G : Cfg} {B : Bs} {Wx : WX} {cf : CF} {sf : SF} {c : Bool} {sc so : Scope} {X : Cx}
abbrev noX : WX := fun _ _ _ _ => False
def tTst (G : Cfg) (B : Bs) (cf : CF) (sf : SF) : Option E → TT
  | none => tYes
  | some m => tB (tE G B noX cf sf m)
theorem Grow.addD {ι ι' W : List Addr} {H H' : Hp} {D : Addr} (x : Grow ι H ι' H') (n : H D = none) : Ext (ι ++ W) ι H (ι' ++ D :: W) ι' H' where
  pre := x.pre
  keep := fun a o h m => x.keep a o h fun z => m (List.mem_append_left _ z)
  new := fun a m => by
    rcases List.mem_append.mp m with z | z
    · rcases x.new a z with q | q
      · exact .inl (List.mem_append_left _ q)
      · exact .inr q
    · rcases List.mem_cons.mp z with z | z
      · exact .inr (by rw [z]; exact n)
      · exact .inl (List.mem_append_right _ z)
theorem CE.noSet {tg x : Expr} {i : It} (h : CE T N c sc (.it tg x) (.it i)) : ∀ env v, foldedSetIterable x env v = pure v := by
  intro env v
  cases h with
  | iof h => cases h <;> rfl
  | irange _ _ _ => rfl
  | ienum _ _ _ => rfl
theorem i_lc (g : GX T N G B Wx cf true sc so X) {tg : Expr} {m : E} {t : Tg} {mi : It} {mc : Option E} {scope : Scope} {own : List (Str × Nat)} (hct : CT N scope tg t) (hown : own.map (·.2) = t.slots) {σ : L2.St} {H : Hp} {Q : VK} (hh : tE G B Wx cf sf (.lc m t mi mc) σ H Q) :
    tLc (tI G B Wx cf sf mi) (gT X.K t) (tTst G B cf sf mc) (tE G B noX cf sf m) (own.map (·.2)) σ H Q := by
  obtain ⟨ι, W, M, env, r, hs⟩ := hh
  have hsl : ∀ i ∈ t.slots, i < B.n := fun i h => by rw [g.bn]; exact hct.inN i h
  rw [hown]
  have hs1 : Sat G B (Den G) Wx W env σ ι H ((evalI cf sf env mi M).bind fun ds m1 => (lcGo (lcStep (fun env m0 => evalE cf sf env m m0) (condE cf sf mc) t env) ds m1).still.bind fun ds m2 => if ds.length ≤ LN then .ok (.lst ds) m2 else .bad) Q := by
    rw [← evalE_lc]
    exact hs
  refine ⟨ι, W, M, env, r, ?_⟩
  cases hI : evalI cf sf env mi M with
  | bad => rw [hI] at hs1; exact hs1
  | exc k a M1 => rw [hI] at hs1; exact hs1
  | ok ds M1 =>
    rw [hI, R.bind_ok] at hs1
    intro J ι1 H1 r1 g1 w dA nD
    generalize hstep : lcStep (fun env m0 => evalE cf sf env m m0) (condE cf sf mc) t env = step at hs1
    cases hg : lcGo step ds M1 with
    | bad => rw [hg] at hs1; exact hs1.elim
    | exc k a M2 => rw [hg] at hs1; exact hs1.elim
    | ok rs Mf =>
      rw [hg] at hs1
      have hs2 : Sat G B (Den G) Wx W env σ ι H (if rs.length ≤ LN then R.ok (.lst rs) Mf else .bad) Q := hs1
      by_cases hz : rs.length ≤ LN
      case neg => rw [if_neg hz] at hs2; exact hs2.elim
      rw [if_pos hz] at hs2
      obtain ⟨Gd, hGd, wk⟩ := w
      have oB : B.H dA = none := r1.noB nD
      have oW : dA ∉ B.W := r1.noBW nD
      have oN := r1.ownNe nD
      refine lc_it wk (fun i Hc => ∃ ιi Mi accD acc rest, Rel G B ιi (dA :: W) Mi env σ Hc ∧ Grow ι1 H1 ιi Hc ∧ Hc dA = some (.lst acc) ∧ Dens G ιi (ιi ++ dA :: W) Hc accD acc ∧ lcGo step (ds.drop i) Mi = .ok rest Mf ∧ accD ++ rest = rs) ?_ ?_ ?_ ?_
      · exact ⟨ι1, M1, [], [], rs, r1.addOwn nD, Grow.of_keep (keep_upd nD), upd_same, rfl, by simpa using hg, rfl⟩
      · rintro i Hc hi ⟨ιi, Mi, accD, acc, rest, ri, gi, _⟩
        exact hGd _ _ _ (gi.addD (W := W) nD)
      · rintro i x Hc Hn hi ⟨ιi, Mi, accD, acc, rest, ri, gi, hD, hacc, hgo, hsum⟩ ⟨kk, hy⟩
        obtain ⟨d, hd, dd⟩ := hy ιi (ιi ++ dA :: W) (gi.addD (W := W) nD) ri.liveL
        have hdrop : ds.drop i = d :: ds.drop (i + 1) := by
          obtain ⟨hb, e⟩ := List.getElem?_eq_some_iff.mp hd
          rw [List.drop_eq_getElem_cons hb, e]
        rw [hdrop] at hgo
        obtain ⟨o, M2, rr, h1, h2, h3⟩ := lcGo_cons hgo
        rw [← hstep] at h1
        unfold lcStep at h1
        cases hb : bindT t d env with
        | none => rw [hb] at h1; cases h1
        | some env' =>
          rw [hb] at h1
          have rn : Rel G B ιi (dA :: W) Mi env σ Hn := ri.grow kk
          have gn : Grow ι1 H1 ιi Hn := gi.trans (Grow.of_keep kk)
          rw [g.hK]
          refine bind_ok_wiped rn dd hsl hb fun σ2 r2 hw => ⟨hw, ?_⟩
          -- the state behind: no item more
          have skip : ∀ ι3 H3, Rel G B ι3 (dA :: W) M2 env' σ2 H3 → Grow ιi Hn ι3 H3 → o = none → ∃ ιi Mi accD acc rest, Rel G B ιi (dA :: W) Mi env σ H3 ∧ Grow ι1 H1 ιi H3 ∧ H3 dA = some (.lst acc) ∧ Dens G ιi (ιi ++ dA :: W) H3 accD acc ∧ lcGo step (ds.drop (i + 1)) Mi = .ok rest Mf ∧ accD ++ rest = rs := fun ι3 H3 r3 g3 eo => by
            have nD' : dA ∉ ιi := ri.dis dA (List.mem_cons_self ..)
            subst eo
            refine ⟨ι3, M2, accD, acc, rr, rn.swap g3 r3 rfl, gn.trans g3, g3.keep _ _ (kk _ _ hD) nD', (hacc.ext (Grow.of_keep (ι := ιi) kk).addW).ext g3.addW, h2, ?_⟩
            rw [← hsum, h3]
          -- .. one item more
          have more : ∀ ι3 H3 z y, Rel G B ι3 (dA :: W) M2 env' σ2 H3 → Grow ιi Hn ι3 H3 → Den G ι3 (ι3 ++ dA :: W) H3 z y → o = some z → ∃ acc, H3 dA = some (.lst acc) ∧ acc.length < sizeLine ∧ ∃ ιi Mi accD acc' rest, Rel G B ιi (dA :: W) Mi env σ (upd H3 dA (.lst (acc ++ [y]))) ∧ Grow ι1 H1 ιi (upd H3 dA (.lst (acc ++ [y]))) ∧
              (upd H3 dA (.lst (acc ++ [y]))) dA = some (.lst acc') ∧ Dens G ιi (ιi ++ dA :: W) (upd H3 dA (.lst (acc ++ [y]))) accD acc' ∧ lcGo step (ds.drop (i + 1)) Mi = .ok rest Mf ∧ accD ++ rest = rs := fun ι3 H3 z y r3 g3 hz' eo => by
            have nD' : dA ∉ ιi := ri.dis dA (List.mem_cons_self ..)
            subst eo
            have r4 : Rel G B ι3 (dA :: W) M2 env σ H3 := rn.swap g3 r3 rfl
            have hacc3 : Dens G ι3 (ι3 ++ dA :: W) H3 accD acc := (hacc.ext (Grow.of_keep (ι := ιi) kk).addW).ext g3.addW
            have e3 : rest = z :: rr := h3
            have hsum' : (accD ++ [z]) ++ rr = rs := by rw [← hsum, e3, List.append_assoc]; rfl
            refine ⟨acc, g3.keep _ _ (kk _ _ hD) nD', ?_, ι3, M2, accD ++ [z], acc ++ [y], rr, r4.wr (List.mem_cons_self ..) oB oN, ?_, upd_same, (hacc3.append (Dens.one hz')).ext (ext_wr (List.mem_append_right _ (List.mem_cons_self ..))), h2, hsum'⟩
            · have l1 := hacc.length
              have l2 := congrArg List.length hsum'
              rw [List.length_append, List.length_append, List.length_singleton] at l2
              rw [l1, sizeLine_eq]
              have hz2 : rs.length ≤ 16777216 := hz
              omega
            · have gg := gn.trans g3
              exact ⟨gg.pre, fun a u h n => by rw [upd_ne (ne_of_none h nD)]; exact gg.keep a u h n, gg.new⟩
          cases mc with
          | none =>
            have h1' : ((evalE cf sf env' m Mi).bind fun x m' => R.ok (some x) m') = .ok o M2 := h1
            dsimp only [tTst, tYes]
            rw [if_pos rfl]
            refine ⟨ιi, dA :: W, Mi, env', r2, ?_⟩
            revert h1'
            cases evalE cf sf env' m Mi with
            | bad => exact fun h => by cases h
            | exc k a M3 => exact fun h => by cases h
            | ok z M3 =>
              intro h y ι3 H3 r3 d3 g3
              cases h
              exact more ι3 H3 z y r3 g3 d3 rfl
          | some ce =>
            have h1' : ((evalE cf sf env' ce Mi).bind fun k m' => match k with
              | .bl true => (evalE cf sf env' m m').bind fun x m'' => R.ok (some x) m''
              | .bl false => .ok none m'
              | _ => .bad) = .ok o M2 := h1
            refine ⟨ιi, dA :: W, Mi, env', r2, ?_⟩
            revert h1'
            cases evalE cf sf env' ce Mi with
            | bad => exact fun h => by cases h
            | exc k a M3 => exact fun h => by cases h
            | ok k M3 =>
              intro h v ι3 H3 r3 d3 g3
              rw [R.bind_ok] at h
              cases k with
              | bl k =>
                refine ⟨k, d3, ?_⟩
                cases k with
                | false =>
                  refine iteF ?_
                  cases h
                  exact skip ι3 H3 r3 g3 rfl
                | true =>
                  refine iteT ⟨ι3, dA :: W, M3, env', r3, ?_⟩
                  have h' : ((evalE cf sf env' m M3).bind fun x m'' => R.ok (some x) m'') = .ok o M2 := h
                  revert h'
                  cases evalE cf sf env' m M3 with
                  | bad => exact fun h => by cases h
                  | exc k a M4 => exact fun h => by cases h
                  | ok z M4 =>
                    intro h y ι4 H4 r4 d4 g4
                    cases h
                    exact more ι4 H4 z y r4 (g3.trans g4) d4 rfl
              | _ => cases h
      · rintro Hc ⟨ιi, Mi, accD, acc, rest, ri, gi, hD, hacc, hgo, hsum⟩
        rw [List.drop_length] at hgo
        cases hgo
        rw [List.append_nil] at hsum
        subst hsum
        have rF := ri.dropOwn oW oN
        refine hs2 (.ref dA) ιi Hc rF ⟨dA, acc, rfl, ?_, hD, hacc.ext ext_drop⟩ (g1.trans gi)
        intro m
        rcases List.mem_append.mp m with z | z
        · exact ri.dis dA (List.mem_cons_self ..) z
        · exact r1.fresh nD (List.mem_append_right _ z)
theorem s_lc (g : GX T N G B Wx cf true sc so X) (hc : X.calm = true) {elt tg iter : Expr} {ifs : List Expr} {m : E} {t : Tg} {mi : It} {mc : Option E} {p : Pos} {scope : Scope} {own : List (Str × Nat)} (hct : CT N scope tg t) (hown : own.map (·.2) = t.slots) (hok : BlkOk N sc scope own)
    (hi : PI X tg iter (tI G B Wx cf sf mi)) (hns : ∀ env v, foldedSetIterable iter env v = pure v)
    (he : ∀ s H C cl fp, PE (X.blk s H scope (compEnvC scope cl C X.env) fp) elt (tE G B noX cf sf m))
    (ht : ∀ s H C cl fp, PTs (X.blk s H scope (compEnvC scope cl C X.env) fp) ifs (tTst G B cf sf mc)) : PE X (.ListComp elt [⟨tg, iter, ifs, 0⟩] scope p) (tE G B Wx cf sf (.lc m t mi mc)) :=
  PE.imp (pe_lc (own := own) (g := gT X.K t) hc (by rw [g.hN]; exact g.nd) hi (by rw [g.hN, g.hsc]; exact hok) (fun s H C cl fp => s_T (g.blk s H scope C cl fp) hc hct) ht he (hns _)) fun _ _ _ h => i_lc g hct hown h
/-- y = [..] -/
theorem s_setLc (g : GX T N G B Wx cf true sc so X) (hc : X.calm = true) {y : Str} {j : Nat} {py ps : Pos} (h1 : N[j]? = some y) (h2 : Loc so y) {elt tg iter : Expr} {ifs : List Expr} {m : E} {t : Tg} {mi : It} {mc : Option E} {p : Pos} {scope : Scope} {own : List (Str × Nat)} (hct : CT N scope tg t) (hown : own.map (·.2) = t.slots) (hok : BlkOk N sc scope own)
    (hi : PI X tg iter (tI G B Wx cf sf mi)) (hns : ∀ env v, foldedSetIterable iter env v = pure v)
    (he : ∀ s H C cl fp, PE (X.blk s H scope (compEnvC scope cl C X.env) fp) elt (tE G B noX cf sf m))
    (ht : ∀ s H C cl fp, PTs (X.blk s H scope (compEnvC scope cl C X.env) fp) ifs (tTst G B cf sf mc)) : PS X (.Assign [.Name y py] (.ListComp elt [⟨tg, iter, ifs, 0⟩] scope p) ps) (tAsg (tE G B Wx cf sf (.lc m t mi mc)) (gName j)) := by
  have sw : swapsWith (.ListComp elt [⟨tg, iter, ifs, 0⟩] scope p) (some (.Name y py)) ps.line X.env = pure (X.env.blockKind == .function && X.env.kindOf y == some .local && py.line == p.line && !(scope.names.any fun (n, k) => n == y && (k == .local || k == .cell))) := rfl
  cases hb : (X.env.blockKind == .function && X.env.kindOf y == some .local && py.line == p.line && !(scope.names.any fun (n, k) => n == y && (k == .local || k == .cell))) with
  | false =>
    rw [hb] at sw
    exact ps_set (by rw [g.hN]; exact g.nd) (g.ix h1) (g.loc y h2).1 (s_lc g hc hct hown hok hi hns he ht) sw (g.loc y h2).2
  | true =>
    rw [hb] at sw
    simp only [Bool.and_eq_true] at hb
    have hl : X.env.scope.names.lookup y = some .local := by
      have := hb.1.1.2
      exact eq_of_beq this
    refine PS.imp (ps_setLc (own := own) (g := gT X.K t) hc (by rw [g.hN]; exact g.nd) (g.ix h1) hl sw hi (by rw [g.hN, g.hsc]; exact hok) (fun s H C cl fp => s_T (g.blk s H scope C cl fp) hc hct) ht he (hns _)) fun D σ H h => i_lc g hct hown h
/-! ### what an except suite asks of its exception -/
theorem exn_slot {ι W : List Addr} {M : Mem} {env : Env} {σ : L2.St} {H : Hp} {i : Nat} {α : Type} {f : Nat → D → R α} {den : List Addr → List Addr → Hp → α → V → Prop} {Q : VK} (r : Rel G B ι W M env σ H)
    (hs : Sat G B den Wx W env σ ι H (match env[i]? with | some (some (.exn k act)) => f k act | _ => .bad) Q) : ∃ k act ea dd av, env[i]? = some (some (.exn k act)) ∧ B.xi = some (ea, k, dd) ∧ σ[i]? = some (some (.ref ea)) ∧ H dd = some (.xd [(actN, av)]) ∧ Den G ι (ι ++ W) H act av ∧ Sat G B den Wx W env σ ι H (f k act) Q := by
  cases e : env[i]? with
  | none => rw [e] at hs; exact hs.elim
  | some o =>
    cases o with
    | none => rw [e] at hs; exact hs.elim
    | some s =>
      cases s with
      | exn k act =>
        rw [e] at hs
        obtain ⟨v, e1, ea, dd, av, e2, rfl, e3, _, e4⟩ := r.slots i _ e
        exact ⟨k, act, ea, dd, av, rfl, e2, e1, e3, e4, hs⟩
      | val _ => rw [e] at hs; exact hs.elim
      | own _ => rw [e] at hs; exact hs.elim
theorem PE.run' {e : Expr} {t : TE} (h : ∀ (pins : List (Addr × Obj)) (s : Shared) (σ : L2.St) (H : Hp) (Q : VK), Inv X pins σ H s → t σ H Q → ∃ t', PE X e t' ∧ t' σ H Q) : PE X e t :=
  ⟨fun pins s σ H Q I hw => let ⟨t', p, q⟩ := h pins s σ H Q I hw; p.run pins s σ H Q I q⟩
theorem s_isx (g : GX T N G B Wx cf false sc so X) {x y : Str} {i k : Nat} {p q r s : Pos} (h1 : N[i]? = some x) (h2 : Vis sc x) (h3 : plainN x = true) (hy : ("isinstance" : Str) ∈ T.fre) (hg' : glb sc "isinstance") (hk : T.cls.lookup y = some k) (hgk : glb sc y) (hpk : plainN y = true) :
    PE X (.Call (.Name "isinstance" q) [.Name x r, .Name y s] [] p) (tE G B Wx cf T.sf (.isx i (some k))) := PE.run' fun pins s0 σ H Q I ⟨ι, W, M, env, rr, hs⟩ => by
  obtain ⟨kk, act, ea, dd, av, e1, e2, e3, e4, e5, hs'⟩ := exn_slot (f := fun kk _ => R.ok (D.bl (T.sf kk (some k))) M) rr hs
  have hn : PE X (.Name y s) (tC (.ref (G.clA k))) := pe_glob (g.gl hgk) (g.cls y k hk) rfl (plain_dbg hpk)
  refine ⟨_, pe_callB (g.xis rfl _ _ _ e2) (g.gl hg') (g.fre _ hy) boot_isinstance (pa_cons (pe_var (g.ix h1) (g.vis h2) (plain_dbg h3) (plain_cd h3)) (pa_cons hn pa_nil rfl) rfl) (by decide) (by decide) rfl rfl, ?_⟩
  exact ⟨_, e3, _, some k, _, rfl, .inr ⟨y, k, hk, rfl, rfl⟩, e4, (Sat.toPure rr hs').here rfl⟩
theorem s_isv (g : GX T N G B Wx cf false sc so X) {x : Str} {i : Nat} {p q r s : Pos} (h1 : N[i]? = some x) (h2 : Vis sc x) (h3 : plainN x = true) (hy : ("isinstance" : Str) ∈ T.fre) (hg' : glb sc "isinstance") (hv : ("ValueError" : Str) ∈ T.fre) (hgv : glb sc "ValueError") :
    PE X (.Call (.Name "isinstance" q) [.Name x r, .Name "ValueError" s] [] p) (tE G B Wx cf T.sf (.isx i none)) := PE.run' fun pins s0 σ H Q I ⟨ι, W, M, env, rr, hs⟩ => by
  obtain ⟨kk, act, ea, dd, av, e1, e2, e3, e4, e5, hs'⟩ := exn_slot (f := fun kk _ => R.ok (D.bl (T.sf kk none)) M) rr hs
  have hn : PE X (.Name "ValueError" s) (tC (.ty "ValueError")) := pe_bltn (g.gl hgv) (g.fre _ hv) PyProof.Rows.Boot.«ValueError» rfl (by decide) (by decide)
  refine ⟨_, pe_callB (g.xis rfl _ _ _ e2) (g.gl hg') (g.fre _ hy) boot_isinstance (pa_cons (pe_var (g.ix h1) (g.vis h2) (plain_dbg h3) (plain_cd h3)) (pa_cons hn pa_nil rfl) rfl) (by decide) (by decide) rfl rfl, ?_⟩
  exact ⟨_, e3, _, none, _, rfl, .inl ⟨rfl, rfl⟩, e4, (Sat.toPure rr hs').here rfl⟩
theorem s_actx (g : GX T N G B Wx cf false sc so X) {x : Str} {i : Nat} {p q : Pos} (h1 : N[i]? = some x) (h2 : Vis sc x) (h3 : plainN x = true) : PE X (.Attribute (.Name x q) "act" p) (tE G B Wx cf T.sf (.actx i)) := PE.run' fun pins s0 σ H Q I ⟨ι, W, M, env, rr, hs⟩ => by
  obtain ⟨kk, act, ea, dd, av, e1, e2, e3, e4, e5, hs'⟩ := exn_slot (f := fun _ act => R.ok act M) rr hs
  refine ⟨_, g.xac rfl _ _ _ e2 x _ p q (pe_var (g.ix h1) (g.vis h2) (plain_dbg h3) (plain_cd h3)), ?_⟩
  exact ⟨_, e3, rfl, _, av, e4, by rw [List.lookup_cons]; simp, (Sat.toPure rr hs').here e5⟩
/-! ### every expression -/
def Snd (T : Tb) (N : List Str) (c : Bool) (sc : Scope) : Sy → Tm → Prop
  | .e x, .e m => ∀ (G : Cfg) (B : Bs) (Wx : WX) (cf : CF) (so : Scope) (X : Cx), GX T N G B Wx cf c sc so X → JE G B Wx cf T.sf X x m
  | .b x, .e m => ∀ (G : Cfg) (B : Bs) (Wx : WX) (cf : CF) (so : Scope) (X : Cx), GX T N G B Wx cf c sc so X → JB G B Wx cf T.sf X x m
  | .es xs, .es ms => ∀ (G : Cfg) (B : Bs) (Wx : WX) (cf : CF) (so : Scope) (X : Cx), GX T N G B Wx cf c sc so X → PA X xs (tEs G B Wx cf T.sf ms)
  | .bs xs, .es ms => ∀ (G : Cfg) (B : Bs) (Wx : WX) (cf : CF) (so : Scope) (X : Cx), GX T N G B Wx cf c sc so X → PA X xs (tEsB G B Wx cf T.sf ms)
  | .o x, .o m => ∀ (G : Cfg) (B : Bs) (Wx : WX) (cf : CF) (so : Scope) (X : Cx), GX T N G B Wx cf c sc so X → PO X x (tO G B Wx cf T.sf m)
  | .it tg x, .it m => ∀ (G : Cfg) (B : Bs) (Wx : WX) (cf : CF) (so : Scope) (X : Cx), GX T N G B Wx cf c sc so X → PI X tg x (tI G B Wx cf T.sf m)
  | _, _ => True
theorem sound {sy : Sy} {tm : Tm} (h : CE T N c sc sy tm) : Snd T N c sc sy tm := by
  induction h with
  | non => exact fun G B Wx cf so X g => JE.of (s_lit (v := .non) (d := .non) (fun _ _ _ => rfl) pe_non) (fun _ => rfl) (fun _ _ _ => by intro e; cases e)
  | @bl _ _ _ _ b => exact fun G B Wx cf so X g => JE.of (s_lit (v := .bl b) (d := .bl b) (fun _ _ _ => rfl) pe_bl) (fun _ => rfl) (fun _ _ _ => by intro e; cases e)
  | @int _ _ _ _ i => exact fun G B Wx cf so X g => JE.of (s_lit (v := .int i) (d := .int i) (fun _ _ _ => rfl) pe_int) (fun _ => rfl) (fun _ _ _ => by intro e; cases e)
  | @str _ _ _ _ z l h => exact fun G B Wx cf so X g => JE.of (s_lit (v := .str z) (d := .str l) (fun _ _ _ => by rw [h]; rfl) pe_str) (fun _ => rfl) (fun _ _ _ => by intro e; cases e)
  | var h1 h2 h3 => exact fun G B Wx cf so X g => JE.of (s_var g h1 h2 h3) (fun _ => rfl) (fun _ _ _ => by intro e; cases e)
  | glob h1 h2 h3 =>
    intro G B Wx cf so X g
    obtain ⟨u, v, hm, rv, hd⟩ := g.con _ _ h1
    exact JE.of (s_glob hd (pe_glob (g.gl h2) hm rv (plain_dbg h3))) (fun _ => rfl) (fun _ _ _ => by intro e; cases e)
  | tup hz _ ih => exact fun G B Wx cf so X g => JE.of (s_tup hz (ih G B Wx cf so X g)) (fun _ => rfl) (fun _ _ _ => by intro e; cases e)
  | lst hz _ ih => exact fun G B Wx cf so X g => JE.of (s_lst hz (ih G B Wx cf so X g)) (fun _ => rfl) (fun _ _ _ => by intro e; cases e)
  | op ho _ _ iha ihb => exact fun G B Wx cf so X g => JE.of (s_op g ho (iha G B Wx cf so X g) (ihb G B Wx cf so X g)) (fun _ => rfl) (fun _ _ _ => by intro e; cases e)
  | cmp ho hm _ _ iha ihb => exact fun G B Wx cf so X g => s_cmp g ho hm (iha G B Wx cf so X g) (ihb G B Wx cf so X g)
  | chain h1 h2 _ _ n1 n2 _ _ _ iha ihb ihd => exact fun G B Wx cf so X g => s_chain g h1 h2 n1 n2 (iha G B Wx cf so X g) (ihb G B Wx cf so X g) (ihd G B Wx cf so X g)
  | neg _ ih => exact fun G B Wx cf so X g => JE.of (s_neg g (ih G B Wx cf so X g)) (fun _ => rfl) (fun _ _ _ => by intro e; cases e)
  | not _ ih => exact fun G B Wx cf so X g => s_not (ih G B Wx cf so X g)
  | and1 _ ih => exact fun G B Wx cf so X g => s_and1 (ih G B Wx cf so X g)
  | or1 _ ih => exact fun G B Wx cf so X g => s_or1 (ih G B Wx cf so X g)
  | and _ _ iha ihb => exact fun G B Wx cf so X g => s_and (iha G B Wx cf so X g) (ihb G B Wx cf so X g)
  | or _ _ iha ihb => exact fun G B Wx cf so X g => s_or (iha G B Wx cf so X g) (ihb G B Wx cf so X g)
  | ife _ _ _ iht iha ihb => exact fun G B Wx cf so X g => s_ife (iht G B Wx cf so X g) (iha G B Wx cf so X g) (ihb G B Wx cf so X g)
  | sub hx _ _ iha ihi => exact fun G B Wx cf so X g => JE.of (s_sub g hx (iha G B Wx cf so X g) (ihi G B Wx cf so X g)) (fun _ => rfl) (fun _ _ _ => by intro e; cases e)
  | slc _ _ _ iha ihl ihh => exact fun G B Wx cf so X g => JE.of (s_slc g (iha G B Wx cf so X g) (ihl G B Wx cf so X g) (ihh G B Wx cf so X g)) (fun _ => rfl) (fun _ _ _ => by intro e; cases e)
  | bi hc hb hx hg hce ih => exact fun G B Wx cf so X g => JE.of (s_bi g (g.calm hc) hb hx hg hce (ih G B Wx cf so X g)) (fun _ => rfl) (fun _ _ _ => by intro e; cases e)
  | mt hb hl hz hco hce iho ih => exact fun G B Wx cf so X g => JE.of (s_mt g hb hl hz hco hce (iho G B Wx cf so X g) (ih G B Wx cf so X g)) (fun _ => rfl) (fun _ _ _ => by intro e; cases e)
  | isi ht hx hg hy hg' hce ih => exact fun G B Wx cf so X g => JE.of (s_isi g ht hx hg hy hg' hce.starB (ih G B Wx cf so X g)) (fun _ => rfl) (fun _ _ _ => by intro e; cases e)
  | call hc hf hg hpl hds hdl hn hce ih => exact fun G B Wx cf so X g => JE.of (s_call g hc hf hg hpl hds hdl hn hce (ih G B Wx cf so X g)) (fun _ => rfl) (fun _ _ _ => by intro e; cases e)
  | lc hct hown hok hce _ ihi ihe => exact fun G B Wx cf so X g => JE.of (s_lc g (g.calm rfl) hct hown hok (ihi G B Wx cf so X g) hce.noSet (fun s H C cl fp => (ihe G B noX cf _ _ (g.blk s H _ C cl fp)).1) (fun s H C cl fp => pts_nil)) (fun _ => rfl) (fun _ _ _ => by intro e; cases e)
  | lcIf hct hown hok hce _ _ ihi ihe ihf => exact fun G B Wx cf so X g => JE.of (s_lc g (g.calm rfl) hct hown hok (ihi G B Wx cf so X g) hce.noSet (fun s H C cl fp => (ihe G B noX cf _ _ (g.blk s H _ C cl fp)).1) (fun s H C cl fp => pts_one (ihf G B noX cf _ _ (g.blk s H _ C cl fp)).2.1)) (fun _ => rfl) (fun _ _ _ => by intro e; cases e)
  | isx h1 h2 h3 hy hg' hk hgk hpk => exact fun G B Wx cf so X g => JE.of (s_isx g h1 h2 h3 hy hg' hk hgk hpk) (fun _ => rfl) (fun _ _ _ => by intro e; cases e)
  | isv h1 h2 h3 hy hg' hv hgv => exact fun G B Wx cf so X g => JE.of (s_isv g h1 h2 h3 hy hg' hv hgv) (fun _ => rfl) (fun _ _ _ => by intro e; cases e)
  | actx h1 h2 h3 => exact fun G B Wx cf so X g => JE.of (s_actx g h1 h2 h3) (fun _ => rfl) (fun _ _ _ => by intro e; cases e)
  | of _ ih => exact fun G B Wx cf so X g => (ih G B Wx cf so X g).b
  | bvar h1 h2 h3 => exact fun G B Wx cf so X g => s_bvar g h1 h2 h3
  | nil => exact fun G B Wx cf so X g => s_nil
  | cons h1 _ ihe ihs => exact fun G B Wx cf so X g => s_cons h1.star (ihe G B Wx cf so X g) (ihs G B Wx cf so X g)
  | bnil => exact fun G B Wx cf so X g => s_bnil
  | bcons h1 _ ihe ihs => exact fun G B Wx cf so X g => s_bcons h1.starB (ihe G B Wx cf so X g) (ihs G B Wx cf so X g)
  | onone => exact fun G B Wx cf so X g => s_onone
  | osome _ ih => exact fun G B Wx cf so X g => s_osome (ih G B Wx cf so X g)
  | iof _ ih => exact fun G B Wx cf so X g => s_iof g (ih G B Wx cf so X g)
  | irange hx hg hce ih => exact fun G B Wx cf so X g => s_irange g hx hg hce (ih G B Wx cf so X g)
  | ienum hx hg hce ih => exact fun G B Wx cf so X g => s_ienum g hx hg hce (ih G B Wx cf so X g)
end
end Mini

/-! Statements: which text says which statement, and that its run is the model's. -/
namespace Mini
open PySem PySem.Spec PyProof.Rows L2
inductive Ss where
  | s (x : Stmt)
  | ss (xs : List Stmt)
inductive Sm where
  | s (m : S)
  | ss (ms : List S)
def notTup : Expr → Bool
  | .Tuple _ _ _ => false
  | .List _ _ => false
  | _ => true
def isComp : Expr → Bool
  | .ListComp _ _ _ _ => true
  | _ => false
inductive CS (T : Tb) (N : List Str) (sc : Scope) : Bool → Ss → Sm → Prop where
  | set {c x i e m p q} : N[i]? = some x → Loc sc x → CE T N c sc (.e e) (.e m) → CS T N sc c (.s (.Assign [.Name x q] e p)) (.s (.set i m))
  | own {x i es ms p q r} : N[i]? = some x → Loc sc x → ms.length ≤ 1000 → CE T N true sc (.es es) (.es ms) → CS T N sc true (.s (.Assign [.Name x q] (.List es r) p)) (.s (.own i (.lst ms)))
  | unp {xs k r is e m p} : CT N sc (.Tuple xs k r) (.tp is) → CE T N true sc (.e e) (.e m) → notTup e = true → CS T N sc true (.s (.Assign [.Tuple xs k r] e p)) (.s (.unp is m))
  | sti {o i e mo mi me p q} : CE T N true sc (.e e) (.e me) → CE T N true sc (.e o) (.e mo) → CE T N true sc (.e i) (.e mi) → isComp e = false → CS T N sc true (.s (.Assign [.Subscript o i q] e p)) (.s (.sti mo mi me))
  | app {x i e m p q r s} : N[i]? = some x → Vis sc x → plainN x = true → (q.endLine == p.line) = true → CE T N true sc (.e e) (.e m) → CS T N sc true (.s (.Expr (.Call (.Attribute (.Name x r) "append" q) [e] [] p) s)) (.s (.app i m))
  | exp {e m p} : CE T N true sc (.e e) (.e m) → isComp e = false → CS T N sc true (.s (.Expr e p)) (.s (.exp m))
  | ret {e m p} : CE T N true sc (.e e) (.e m) → CS T N sc true (.s (.Return (some e) p)) (.s (.ret m))
  | raise {x k e m p q r} : T.cls.lookup x = some k → glb sc x → plainN x = true → CE T N true sc (.e e) (.e m) → CS T N sc true (.s (.Raise (some (.Call (.Name x q) [e] [] r)) none p)) (.s (.raise k m))
  | ife {e m a b ma mb p} : CE T N true sc (.e e) (.e m) → CS T N sc true (.ss a) (.ss ma) → CS T N sc true (.ss b) (.ss mb) → CS T N sc true (.s (.If e a b p)) (.s (.ife m ma mb))
  | for {tg it b t i mb p} : CT N sc tg t → CE T N true sc (.it tg it) (.it i) → CS T N sc true (.ss b) (.ss mb) → CS T N sc true (.s (.For tg it b [] p)) (.s (.for t i mb))
  | try1 {b x k n i h0 hs mb mh p q r} : T.cls.lookup x = some k → glb sc x → plainN x = true → N[i]? = some n → sc.names.lookup n = some .local → CS T N sc true (.ss b) (.ss mb) → CS T N sc false (.ss (h0 :: hs)) (.ss mh) →
      CS T N sc true (.s (.Try b [.ExceptHandler (some (.Name x q)) (some n) (h0 :: hs) r] [] [] p)) (.s (.try1 mb k i mh))
  | new {x i es ms p q r} : N[i]? = some x → Loc sc x → ms.length ≤ 1000 → CE T N true sc (.es es) (.es ms) → CS T N sc true (.s (.Assign [.Name x q] (.List es r) p)) (.s (.new i (.lst ms)))
  | pass {c p} : CS T N sc c (.s (.Pass p)) (.s .pass)
  | cont {p} : CS T N sc true (.s (.Continue p)) (.s .cont)
  | nil {c} : CS T N sc c (.ss []) (.ss [])
  | cons {c s ss m ms} : CS T N sc c (.s s) (.s m) → CS T N sc c (.ss ss) (.ss ms) → CS T N sc c (.ss (s :: ss)) (.ss (m :: ms))
  | frz {c ss ms i} : CS T N sc c (.ss ss) (.ss ms) → CS T N sc c (.ss ss) (.ss (.frz i :: ms))
/-- what is wanted of a statement's run -/
def SatS (G : Cfg) (B : Bs) (Wx : WX) (W : List Addr) (ι : List Addr) (H : Hp) (r : RS) (D : Ends) : Prop := match r with
  | .nx env' M' => ∀ σ' ι' W' H', Rel G B ι' W' M' env' σ' H' → Ext (ι ++ W) ι H (ι' ++ W') ι' H' → D.nx σ' H'
  | .cont env' M' => ∀ σ' ι' W' H', Rel G B ι' W' M' env' σ' H' → Ext (ι ++ W) ι H (ι' ++ W') ι' H' → D.ct σ' H'
  | .ret d M' => ∀ v σ' ι' W' env' H', Rel G B ι' W' M' env' σ' H' → Den G ι' (ι' ++ W') H' d v → D.rt v H'
  | .exc k act env' M' => ∀ dd σ' ι' W' H', Rel G B ι' W' M' env' σ' H' → XAt G ι' (ι' ++ W') H' act dd → Ext (ι ++ W) ι H (ι' ++ W') ι' H' → Wx (.ref (G.clA k)) (some dd) σ' H'
  | .bad => False
def tS (G : Cfg) (B : Bs) (Wx : WX) (cf : CF) (sf : SF) (m : S) : TS := fun D σ H => ∃ ι W M env, Rel G B ι W M env σ H ∧ SatS G B Wx W ι H (execS cf sf env m M) D
def tSs (G : Cfg) (B : Bs) (Wx : WX) (cf : CF) (sf : SF) (ms : List S) : TS := fun D σ H => ∃ ι W M env, Rel G B ι W M env σ H ∧ SatS G B Wx W ι H (execSs cf sf env ms M) D
/-- a statement's context -/
structure GS (T : Tb) (N : List Str) (G : Cfg) (B : Bs) (Wx : WX) (cf : CF) (c : Bool) (sc : Scope) (X : Cx) : Prop where
  x : GX T N G B Wx cf c sc sc X
  stk : c = true → X.stack = X.env :: X.outer
  fr : c = true → X.env.frame = some X.env.locals
  po : c = true → PassesOwn (model X.prog X.w) X.A X.env X.xe
  rz : c = true → ∀ (pn : List (Addr × Obj)) (xe : Value → Shared → Prop) (x : Str) (k : Nat), T.cls.lookup x = some k → Gl X x → plainN x = true → ∀ (e : Expr) (ta : TA) (p q : Pos), (starEach [e] X.env = (false, eval e X.env) :: starEach [] X.env) → (∀ (σ : L2.St) (H : Hp) (Q Q' : List V → Hp → Prop), (∀ vs H, Q vs H → Q' vs H) → ta σ H Q → ta σ H Q') → PA (X.tr pn xe) [e] ta →
    PMk (X.tr pn xe) (.Call (.Name x q) [e] [] p) (fun σ H Q => ta σ H fun vs H1 => ∃ v, vs = [v] ∧ ∀ d H2, (∀ a u, H1 a = some u → H2 a = some u) → H1 d = none → H2 d = some (.xd [(actN, v)]) → Q (.ref (G.clA k)) (some d) H2)
  xi : c = true → B.xi = none
  -- the except suites of the frame, and the tries' bodies
  su : c = true → ∀ (Wx' : WX) (pn : List (Addr × Obj)) (xe : Value → Shared → Prop), Takes (X.tr pn xe) Wx' → PassesOwn (model X.prog X.w) X.A X.env xe → GX T N G B Wx' cf true sc sc (X.tr pn xe)
  sx : c = true → ∀ (a : Addr) (oe : Obj) (k : Nat) (dd : Addr) (pn : List (Addr × Obj)), Zc (.ref (G.clA k)) (some dd) oe → (∃ vs, oe.data = .fields vs) → T.sf k (some k) = true → GX T N G { B with xi := some (a, k, dd) } noX cf false sc sc (X.suite a ((a, oe) :: pn))
  ex : c = true → ∀ (k j : Nat) (y : Str), T.sf k (some k) = true → T.cls.lookup y = some j → PySem.W.exmOne X.K (.ref (G.clA k)) (.ref (G.clA j)) = some (T.sf k (some j))
section
variable {G : Cfg} {B : Bs} {Wx : WX} {cf : CF} {sf : SF} {ι ι1 W W1 : List Addr} {H H1 : Hp} {M M1 : Mem} {env : Env} {σ : L2.St} {Z : Ends}
theorem SatS.later {r : RS} (g : Ext (ι ++ W) ι H (ι1 ++ W1) ι1 H1) (h : SatS G B Wx W ι H r Z) : SatS G B Wx W1 ι1 H1 r Z := by
  cases r with
  | nx env' M' => exact fun σ' ι' W' H' r' x => h σ' ι' W' H' r' (g.trans x)
  | cont env' M' => exact fun σ' ι' W' H' r' x => h σ' ι' W' H' r' (g.trans x)
  | ret d M' => exact h
  | exc k a env' M' => exact fun dd σ' ι' W' H' r' x' e => h dd σ' ι' W' H' r' x' (g.trans e)
  | bad => exact h
/-- an expression, then the rest of a statement -/
theorem stepS {m : E} {f : D → Mem → RS} {K : VK} (r : Rel G B ι W M env σ H) (hs : SatS G B Wx W ι H (toS env (evalE cf sf env m M) f) Z)
    (k : ∀ v H' ι' d M', Rel G B ι' W M' env σ H' → Den G ι' (ι' ++ W) H' d v → Grow ι H ι' H' → SatS G B Wx W ι' H' (f d M') Z → K v H') : tE G B Wx cf sf m σ H K := by
  refine ⟨ι, W, M, env, r, ?_⟩
  revert hs
  cases evalE cf sf env m M with
  | bad => exact fun hs => hs
  | exc c a M' => exact fun hs dd ι' H' r' x' g => hs dd σ ι' W H' r' x' g.addW
  | ok d M' => exact fun hs v ι' H' r' hd g => k v H' ι' d M' r' hd g (hs.later g.addW)
theorem Ext.refl' {C : List Addr} : Ext C ι H C ι H := Ext.refl
end
section
variable {T : Tb} {N : List Str} {G : Cfg} {B : Bs} {Wx : WX} {cf : CF} {c : Bool} {sc so : Scope} {X : Cx}
theorem CE.noSwap {e : Expr} {m : E} (h : CE T N c sc (.e e) (.e m)) (hn : isComp e = false) : ∀ (t : Option Expr) (l : Nat) (env : PySem.Env), swapsWith e t l env = pure false := by
  intro t l env
  cases h <;> first
    | rfl
    | cases hn
theorem CE.noSole {e : Expr} {m : E} (h : CE T N c sc (.e e) (.e m)) (hn : isComp e = false) : ∀ (t : List Expr) (l : Nat) (env : PySem.Env), swapsWithSole t e l env = pure false := by
  intro t l env
  unfold swapsWithSole
  split
  · exact h.noSwap hn _ _ _
  · rfl
theorem mem_slot {x : Str} {i : Nat} (g : GX T N G B Wx cf c sc so X) (h : N[i]? = some x) : i < B.n := by
  rw [g.bn]
  exact (List.getElem?_eq_some_iff.mp h).1
/-- x = e -/
theorem i_set {i : Nat} {m : E} {Z : Ends} {σ : L2.St} {H : Hp} (hi : i < B.n) (h : tS G B Wx cf T.sf (.set i m) Z σ H) : tAsg (tE G B Wx cf T.sf m) (gName i) Z σ H := by
  obtain ⟨ι, W, M, env, r, hs⟩ := h
  exact stepS r hs fun v H' ι' d M' r' hd g h => h _ ι' W H' (r'.set1 hi hd) Ext.refl
theorem s_set (g : GX T N G B Wx cf c sc so X) {x : Str} {i : Nat} {e : Expr} {m : E} {p q : Pos} (h1 : N[i]? = some x) (h2 : Loc so x) (hce : CE T N c sc (.e e) (.e m)) : PS X (.Assign [.Name x q] e p) (tS G B Wx cf T.sf (.set i m)) := by
  cases hn : isComp e with
  | false => exact PS.imp (ps_set (by rw [g.hN]; exact g.nd) (g.ix h1) (g.loc x h2).1 (sound hce G B Wx cf so X g).1 (hce.noSwap hn _ _ _) (g.loc x h2).2) fun Z σ H h => i_set (mem_slot g h1) h
  | true =>
    cases hce <;> first
      | (cases hn; done)
      | skip
    · rename_i hct hown hok hci hcm
      exact PS.imp (s_setLc g (g.calm rfl) h1 h2 hct hown hok (sound hci G B Wx cf so X g) hci.noSet (fun s H C cl fp => (sound hcm G B noX cf _ _ (g.blk s H _ C cl fp)).1) (fun s H C cl fp => pts_nil)) fun Z σ H h => i_set (mem_slot g h1) h
    · rename_i hct hown hok hci hcm hcf
      exact PS.imp (s_setLc (mc := some _) g (g.calm rfl) h1 h2 hct hown hok (sound hci G B Wx cf so X g) hci.noSet (fun s H C cl fp => (sound hcm G B noX cf _ _ (g.blk s H _ C cl fp)).1) (fun s H C cl fp => pts_one (sound hcf G B noX cf _ _ (g.blk s H _ C cl fp)).2.1)) fun Z σ H h => i_set (mem_slot g h1) h
theorem OwnAt.own {ι C : List Addr} {H : Hp} {p : Addr} {ds : List D} {vs : List V} (e : H p = some (.lst vs)) (h : Dens G ι C H ds vs) : OwnAt G ι C H p (.lst ds) := ⟨vs, e, h⟩
/-- a name takes a new list of its own -/
theorem Rel.setOwn {ι W : List Addr} {M : Mem} {env : Env} {σ : L2.St} {H : Hp} {p : Addr} {i : Nat} {d : D} (r : Rel G B ι W M env σ H) (hi : i < B.n) (hp : p ∈ W) (hb : p ∉ B.W) (ho : OwnAt G ι (ι ++ W) H p d) (own : ∀ (i : Nat) (d : D) (v : V), env[i]? = some (some (.own d)) → σ[i]? = some (some v) → v ≠ .ref p) :
    Rel G B ι W M (env.set i (some (.own d))) (σ.set i (some (.ref p))) H where
  len := r.len
  nd := r.nd
  dis := r.dis
  live := r.live
  cells := r.cells
  slots := fun j s e => by
    by_cases hj : i = j
    · subst hj
      have hl : i < env.length := by
        have := (List.getElem?_eq_some_iff.mp e).1
        simpa using this
      rw [List.getElem?_set_self hl] at e
      cases e
      exact ⟨.ref p, List.getElem?_set_self (by rw [r.sl]; exact hi), p, rfl, hp, hb, ho⟩
    · rw [List.getElem?_set_ne hj] at e
      obtain ⟨w, e2, h2⟩ := r.slots j s e
      exact ⟨w, by rw [List.getElem?_set_ne hj]; exact e2, h2⟩
  owns := fun j k d1 d2 w e1 e2 e3 e4 => by
    have hh : ∀ j d1 w, (env.set i (some (.own d)))[j]? = some (some (.own d1)) → (σ.set i (some (V.ref p)))[j]? = some (some w) → (i = j ∧ w = .ref p) ∨ (i ≠ j ∧ env[j]? = some (some (.own d1)) ∧ σ[j]? = some (some w)) := fun j d1 w e e3 => by
      by_cases hj : i = j
      · subst hj
        rw [List.getElem?_set_self (by rw [r.sl]; exact hi)] at e3
        cases e3
        exact .inl ⟨rfl, rfl⟩
      · rw [List.getElem?_set_ne hj] at e e3
        exact .inr ⟨hj, e, e3⟩
    rcases hh j d1 w e1 e3 with ⟨a1, b1⟩ | ⟨a1, b1, c1⟩
    · rcases hh k d2 w e2 e4 with ⟨a2, b2⟩ | ⟨a2, b2, c2⟩
      · rw [← a1, ← a2]
      · exact (own k d2 w b2 c2 b1).elim
    · rcases hh k d2 w e2 e4 with ⟨a2, b2⟩ | ⟨a2, b2, c2⟩
      · exact (own j d1 w b1 c1 b2).elim
      · exact r.owns j k d1 d2 w b1 b2 c1 c2
  sl := by rw [List.length_set]; exact r.sl
  base := r.base
  wnew := r.wnew
  wsub := r.wsub
theorem s_own (g : GX T N G B Wx cf true sc so X) {x : Str} {i : Nat} {es : List Expr} {ms : List E} {p q r : Pos} (h1 : N[i]? = some x) (h2 : Loc so x) (hz : ms.length ≤ 1000) (hce : CE T N true sc (.es es) (.es ms)) : PS X (.Assign [.Name x q] (.List es r) p) (tS G B Wx cf T.sf (.own i (.lst ms))) := by
  refine PS.imp (ps_set (by rw [g.hN]; exact g.nd) (g.ix h1) (g.loc x h2).1 (pe_lst (sound hce G B Wx cf so X g)) rfl (g.loc x h2).2) fun Z σ H ⟨ι, W, M, env, r, hs⟩ => ?_
  have hs1 : SatS G B Wx W ι H (toS env ((evalEs cf T.sf env ms M).bind fun ds m1 => .ok (D.lst ds) m1) fun d m1 => .nx (env.set i (some (.own d))) m1) Z := hs
  refine ⟨ι, W, M, env, r, ?_⟩
  cases hv : evalEs cf T.sf env ms M with
  | bad => rw [hv] at hs1; exact hs1
  | exc k a M' => rw [hv] at hs1; exact fun dd ι' H' r' x' g => hs1 dd σ ι' W H' r' x' g.addW
  | ok ds M' =>
    rw [hv] at hs1
    intro vs ι' H' r' hd g'
    refine ⟨by rw [hd.length, evalEs_len hv, sizeLine_eq]; omega, fun pa na => ?_⟩
    refine hs1 _ ι' (pa :: W) _ (Rel.setOwn (r'.addOwn na) (mem_slot g h1) (List.mem_cons_self ..) (r'.noBW na) ⟨vs, upd_same, hd.ext (ext_new na)⟩ (r'.ownNe na)) (g'.addW.trans (ext_new na))
theorem noSwapped {xs : List Expr} {k : Nat} {r : Pos} {e : Expr} (h : notTup e = true) (env : PySem.Env) : swappedStores [.Tuple xs k r] e env = pure none := by
  cases e <;> first
    | rfl
    | cases h
theorem s_unp (g : GX T N G B Wx cf true sc sc X) {xs : List Expr} {k : Nat} {r : Pos} {is : List Nat} {e : Expr} {m : E} {p : Pos} (hct : CT N sc (.Tuple xs k r) (.tp is)) (hce : CE T N true sc (.e e) (.e m)) (hn : notTup e = true) : PS X (.Assign [.Tuple xs k r] e p) (tS G B Wx cf T.sf (.unp is m)) := by
  have hw : swapsWithSole [.Tuple xs k r] e p.line X.env = pure false := by
    show swapsWith e (some (.Tuple xs k r)) p.line X.env = pure false
    cases hce <;> rfl
  refine PS.imp (ps_asg (sound hce G B Wx cf sc X g).1 (s_T g (g.calm rfl) hct) hw (noSwapped hn _)) fun Z σ H ⟨ι, W, M, env, r, hs⟩ => stepS r hs fun v H' ι' d M' r' hd g' h => ?_
  rw [g.hK]
  cases hb : bindT (.tp is) d env with
  | none =>
    have e : (tupItems d).bind (fun ds => Mini.putAll is ds env) = none := hb
    rw [e] at h
    exact h.elim
  | some env' =>
    have e : (tupItems d).bind (fun ds => Mini.putAll is ds env) = some env' := hb
    rw [e] at h
    exact bind_ok r' hd (fun i hi => by rw [g.bn]; exact hct.inN i hi) hb fun σ2 r2 _ => h σ2 ι' W H' r2 Ext.refl
theorem nodup_at {α : Type} {l : List α} (h : l.Nodup) {i j : Nat} {x : α} (h1 : l[i]? = some x) (h2 : l[j]? = some x) : i = j := by
  obtain ⟨b1, e1⟩ := List.getElem?_eq_some_iff.mp h1
  obtain ⟨b2, e2⟩ := List.getElem?_eq_some_iff.mp h2
  have p := List.pairwise_iff_getElem.mp h
  rcases Nat.lt_trichotomy i j with z | z | z
  · exact (p i j b1 b2 z (e1.trans e2.symm)).elim
  · exact z
  · exact (p j i b2 b1 z (e2.trans e1.symm)).elim
/-- a cell is written -/
theorem Rel.setCell {ι W : List Addr} {M : Mem} {env : Env} {σ : L2.St} {H : Hp} {n : Nat} {a : Addr} {o : HO} {cl : Cell} (r : Rel G B ι W M env σ H) (e : ι[n]? = some a) (hc : CellAt G B ι (ι ++ W) (upd H a o) a cl) : Rel G B ι W (M.set n cl) env σ (upd H a o) ∧ Grow ι H ι (upd H a o) := by
  have ma : a ∈ ι := List.mem_of_getElem? e
  have E : Ext (ι ++ W) ι H (ι ++ W) ι (upd H a o) := ext_wr (List.mem_append_left _ ma)
  have GG : Grow ι H ι (upd H a o) := ext_wr ma
  have ne : ∀ b, b ≠ a → ∀ u, H b = some u → upd H a o b = some u := fun b n u h => by rw [upd_ne n]; exact h
  refine ⟨⟨by rw [List.length_set]; exact r.len, r.nd, r.dis, fun b z => ?_, fun k c b e1 e2 => ?_, fun i s e => let ⟨v, e1, h⟩ := r.slots i s e; ⟨v, e1, h.ext GG r.dis⟩, r.owns, r.sl, r.base.trans GG, r.wnew, r.wsub⟩, GG⟩
  · by_cases q : b = a
    · rw [q]; exact ⟨_, upd_same⟩
    · obtain ⟨u, h⟩ := r.live b z
      exact ⟨u, ne b q u h⟩
  · by_cases hk : n = k
    · subst hk
      rw [e] at e2
      cases e2
      have hl : n < M.length := by
        have := (List.getElem?_eq_some_iff.mp e1).1
        simpa using this
      rw [List.getElem?_set_self hl] at e1
      cases e1
      exact hc
    · rw [List.getElem?_set_ne hk] at e1
      refine (r.cells k c b e1 e2).ext E (ne b fun q => hk ?_)
      rw [q] at e2
      exact nodup_at r.nd e e2
theorem s_sti (g : GX T N G B Wx cf true sc so X) {o i e : Expr} {mo mi me : E} {p q : Pos} (hce : CE T N true sc (.e e) (.e me)) (hco : CE T N true sc (.e o) (.e mo)) (hci : CE T N true sc (.e i) (.e mi)) (hn : isComp e = false) : PS X (.Assign [.Subscript o i q] e p) (tS G B Wx cf T.sf (.sti mo mi me)) := by
  have hw : swappedStores [.Subscript o i q] e X.env = pure none := by cases e <;> rfl
  refine PS.imp (ps_asg (sound hce G B Wx cf so X g).1 (pg_sub (sound hco G B Wx cf so X g).1 (sound hci G B Wx cf so X g).1 set_list (ha := by intro v; cases hco <;> cases hci <;> rfl)) (hce.noSole hn _ _ _) hw) fun Z σ H ⟨ι, W, M, env, r, hs⟩ =>
    stepS r hs fun y H1 ι1 d1 M1 r1 hd1 g1 hs1 => stepS r1 hs1 fun x H2 ι2 d2 M2 r2 hd2 g2 hs2 => stepS r2 hs2 fun k H3 ι3 d3 M3 r3 hd3 g3 hs3 => ?_
  cases d2 <;> first
    | (exact hs3.elim)
    | skip
  rename_i n
  obtain ⟨a, e1, rfl⟩ := hd2
  have e3 := Ext.ix g3 e1
  cases hq : M3[n]? with
  | none =>
    have : SatS G B Wx W ι3 H3 .bad Z := by simpa [hq] using hs3
    exact this.elim
  | some cell =>
    cases cell with
    | lst ds =>
      cases d3 <;> first
        | (have : SatS G B Wx W ι3 H3 .bad Z := by simpa [hq] using hs3
           exact this.elim)
        | skip
      rename_i j
      cases hj : ixOf ds.length j with
      | none =>
        have : SatS G B Wx W ι3 H3 .bad Z := by simpa [hq, hj] using hs3
        exact this.elim
      | some pp =>
        have h4 : SatS G B Wx W ι3 H3 (.nx env (M3.set n (.lst (ds.set pp d1)))) Z := by simpa [hq, hj] using hs3
        obtain ⟨vs, ea, hds⟩ := r3.cells n _ a hq e3
        have hd1' := (hd1.ext g2.addW).ext g3.addW
        have E : Ext (ι3 ++ W) ι3 H3 (ι3 ++ W) ι3 (upd H3 a (.lst (vs.set pp y))) := ext_wr (List.mem_append_left _ (List.mem_of_getElem? e3))
        have R := r3.setCell (o := .lst (vs.set pp y)) (cl := .lst (ds.set pp d1)) e3 ⟨_, upd_same, (hds.set pp hd1').ext E⟩
        refine ⟨a, vs, j, pp, rfl, hd3, ea, ?_, h4 σ ι3 W _ R.1 E⟩
        rw [hds.length]
        exact hj
    | dct ds =>
      have : SatS G B Wx W ι3 H3 .bad Z := by simpa [hq] using hs3
      exact this.elim
    | obj k fs =>
      have : SatS G B Wx W ι3 H3 .bad Z := by simpa [hq] using hs3
      exact this.elim
/-! ### calls as statements, ends -/
theorem s_exp (g : GX T N G B Wx cf true sc so X) {e : Expr} {m : E} {p : Pos} (hce : CE T N true sc (.e e) (.e m)) (hn : isComp e = false) : PS X (.Expr e p) (tS G B Wx cf T.sf (.exp m)) :=
  PS.imp (ps_expr (sound hce G B Wx cf so X g).1 (hce.noSwap hn _ _ _)) fun Z σ H ⟨ι, W, M, env, r, hs⟩ => stepS r hs fun v H' ι' d M' r' hd g' h => h σ ι' W H' r' Ext.refl
theorem s_ret (g : GX T N G B Wx cf true sc so X) {e : Expr} {m : E} {p : Pos} (hce : CE T N true sc (.e e) (.e m)) : PS X (.Return (some e) p) (tS G B Wx cf T.sf (.ret m)) :=
  PS.imp (ps_ret (sound hce G B Wx cf so X g).1) fun Z σ H ⟨ι, W, M, env, r, hs⟩ => stepS r hs fun v H' ι' d M' r' hd g' h => h v σ ι' W env H' r' hd
theorem ownL_some {env : Env} {i : Nat} {ds : List D} (h : ownL env i = some ds) : env[i]? = some (some (.own (.lst ds))) := by
  unfold ownL at h
  split at h
  · rename_i q
    cases h
    exact q
  · cases h
/-- an own list in its slot is written -/
theorem Rel.wrOwn {ι W : List Addr} {M : Mem} {env : Env} {σ : L2.St} {H : Hp} {i : Nat} {a : Addr} {d d' : D} {o : HO} (r : Rel G B ι W M env σ H) (e : env[i]? = some (some (.own d))) (e1 : σ[i]? = some (some (.ref a))) (m : a ∈ W) (nb : a ∉ B.W) (ho : OwnAt G ι (ι ++ W) (upd H a o) a d') :
    Rel G B ι W M (env.set i (some (.own d'))) σ (upd H a o) ∧ Ext (ι ++ W) ι H (ι ++ W) ι (upd H a o) := by
  have hB : B.H a = none := (r.wnew a m).resolve_left nb
  have E : Ext (ι ++ W) ι H (ι ++ W) ι (upd H a o) := ext_wr (List.mem_append_right _ m)
  have ne : ∀ b, b ≠ a → ∀ u, H b = some u → upd H a o b = some u := fun b n u h => by rw [upd_ne n]; exact h
  have hl : i < env.length := (List.getElem?_eq_some_iff.mp e).1
  have old : ∀ (j : Nat) (d1 : D), (env.set i (some (.own d')))[j]? = some (some (Slot.own d1)) → ∃ d2 : D, env[j]? = some (some (Slot.own d2)) := fun j d1 q => by
    by_cases hj : i = j
    · subst hj; exact ⟨d, e⟩
    · rw [List.getElem?_set_ne hj] at q; exact ⟨d1, q⟩
  refine ⟨⟨r.len, r.nd, r.dis, fun b z => ?_, fun k c b q1 q2 => ?_, fun j s q => ?_, fun j k d1 d2 v q1 q2 q3 q4 => ?_, r.sl, ⟨r.base.pre, fun b u h n => ?_, r.base.new⟩, r.wnew, r.wsub⟩, E⟩
  · by_cases q : b = a
    · rw [q]; exact ⟨_, upd_same⟩
    · obtain ⟨u, h⟩ := r.live b z
      exact ⟨u, ne b q u h⟩
  · refine (r.cells k c b q1 q2).ext E (ne b fun q => r.dis a m ?_)
    rw [← q]
    exact List.mem_of_getElem? q2
  · by_cases hj : i = j
    · subst hj
      rw [List.getElem?_set_self hl] at q
      cases q
      exact ⟨_, e1, a, rfl, m, nb, ho⟩
    · rw [List.getElem?_set_ne hj] at q
      obtain ⟨v, q1, h⟩ := r.slots j s q
      refine ⟨v, q1, ?_⟩
      cases s with
      | val d => exact Den.ext E h
      | own d2 =>
        obtain ⟨b, z1, m2, nb2, z2⟩ := h
        refine ⟨b, z1, m2, nb2, z2.ext E (ne b fun z => hj ?_)⟩
        rw [z1, z] at q1
        exact r.owns i j d d2 _ e q e1 q1
      | exn c act =>
        obtain ⟨ea, dd, av, z1, z2, z3, m, z⟩ := h
        exact ⟨ea, dd, av, z1, z2, E.keep _ _ z3 m, m, z.ext E⟩
  · obtain ⟨d3, z1⟩ := old j d1 q1
    obtain ⟨d4, z2⟩ := old k d2 q2
    exact r.owns j k d3 d4 v z1 z2 q3 q4
  · rw [upd_ne (fun q => by rw [q, hB] at h; cases h)]
    exact r.base.keep b u h n
theorem s_app (g : GX T N G B Wx cf true sc so X) {x : Str} {i : Nat} {e : Expr} {m : E} {p q r s : Pos} (h1 : N[i]? = some x) (h2 : Vis sc x) (h3 : plainN x = true) (hl : (q.endLine == p.line) = true) (hce : CE T N true sc (.e e) (.e m)) :
    PS X (.Expr (.Call (.Attribute (.Name x r) "append" q) [e] [] p) s) (tS G B Wx cf T.sf (.app i m)) := by
  have hst : starEach [e] X.env = (false, eval e X.env) :: starEach [] X.env := hce.star _ _
  have hfew : ((backTo p (starEach [e] X.env)).all (fun x => !x.1) && (backToKw p (keywordEach [] X.env)).all (fun x => x.1.isSome)
      && decide ([e].length + ([] : List Keyword).length + (if ([] : List Keyword).isEmpty then 0 else 1) < 30)) = true := by rw [hst]; rfl
  refine PS.imp (ps_expr (pe_bm PySem.F.plainAttrs_list PySem.F.slot_list_append PySem.F.type_list_append mt_append (pe_var (g.ix h1) (g.vis h2) (plain_dbg h3) (plain_cd h3)) (pa_cons (sound hce G B Wx cf so X g).1 pa_nil hst) rfl hfew hl hst rfl) rfl) fun Z σ H ⟨ι, W, M, env, r, hs⟩ => ?_
  have hs1 : SatS G B Wx W ι H (match ownL env i with
    | some ds => toS env (evalE cf T.sf env m M) fun d m1 => if ds.length < LN then .nx (env.set i (some (.own (.lst (ds ++ [d]))))) m1 else .bad
    | none => .bad) Z := hs
  cases ho : ownL env i with
  | none => rw [ho] at hs1; exact hs1.elim
  | some ds =>
    rw [ho] at hs1
    have e0 := ownL_some ho
    obtain ⟨v, e1, a, rfl, ma, nb, vs, e2, hds⟩ := r.slots i _ e0
    refine ⟨.ref a, e1, .inl ⟨rfl, vs, SqL.of e2⟩, stepS (f := fun d m1 => if ds.length < LN then .nx (env.set i (some (.own (.lst (ds ++ [d]))))) m1 else .bad) r hs1 fun y H' ι' d M' r' hd g' h => ?_⟩
    by_cases hz : ds.length < LN
    · rw [if_pos hz] at h
      have e3 : H' a = some (.lst vs) := g'.keep _ _ e2 (r.dis a ma)
      have hds' := hds.ext g'.addW
      refine ⟨a, vs, y, rfl, rfl, e3, by rw [hds.length, ← LN_eq]; exact hz, ?_⟩
      have E : Ext (ι' ++ W) ι' H' (ι' ++ W) ι' (upd H' a (.lst (vs ++ [y]))) := ext_wr (List.mem_append_right _ ma)
      obtain ⟨r2, E2⟩ := r'.wrOwn (o := .lst (vs ++ [y])) (d' := .lst (ds ++ [d])) e0 e1 ma nb ⟨_, upd_same, (hds'.append (Dens.one hd)).ext E⟩
      exact h σ ι' W _ r2 E2
    · rw [if_neg hz] at h
      exact h.elim
theorem Sat.mono' {α β : Type} {den : List Addr → List Addr → Hp → α → β → Prop} {W : List Addr} {env : Env} {σ : L2.St} {ι : List Addr} {H : Hp} {r : R α} {Q Q' : β → Hp → Prop} (q : ∀ v H, Q v H → Q' v H) (h : Sat G B den Wx W env σ ι H r Q) : Sat G B den Wx W env σ ι H r Q' := h.mono q
theorem mono1 {m : E} {sf : SF} : ∀ (σ : L2.St) (H : Hp) (Q Q' : List V → Hp → Prop), (∀ vs H, Q vs H → Q' vs H) → tCons (tE G B Wx cf sf m) tNil σ H Q → tCons (tE G B Wx cf sf m) tNil σ H Q' := fun σ H Q Q' q ⟨ι, W, M, env, r, hs⟩ =>
  ⟨ι, W, M, env, r, Sat.mono' (fun v H1 h => q _ _ h) hs⟩
theorem s_raise (g : GS T N G B Wx cf true sc X) {x : Str} {k : Nat} {e : Expr} {m : E} {p q r : Pos} (hk : T.cls.lookup x = some k) (hg : glb sc x) (hpl : plainN x = true) (hce : CE T N true sc (.e e) (.e m)) :
    PS X (.Raise (some (.Call (.Name x q) [e] [] r)) none p) (tS G B Wx cf T.sf (.raise k m)) := by
  refine PS.imp (ps_raise (g.x.calm rfl) g.x.tk (g.rz rfl X.pn X.xe x k hk (g.x.gl hg) hpl e _ r q (hce.star _ _) mono1 (pa_cons (sound hce G B Wx cf sc X g.x).1 pa_nil (hce.star _ _)))) fun Z σ H ⟨ι, W, M, env, r, hs⟩ => stepS r hs fun v H' ι' d M' r' hd g' h => ⟨v, rfl, fun dd H2 kk n e => ?_⟩
  refine h dd σ ι' W H2 (r'.grow kk) ⟨v, e, fun mm => ?_, hd.ext (Grow.of_keep kk).addW⟩ (Grow.of_keep kk).addW
  obtain ⟨u, q⟩ := r'.live dd mm
  rw [n] at q; cases q
end
end Mini

/-! Statements of statements; every statement. -/
namespace Mini
open PySem PySem.Spec PyProof.Rows L2
section
variable {T : Tb} {N : List Str} {G : Cfg} {B : Bs} {Wx : WX} {cf : CF} {c : Bool} {sc so : Scope} {X : Cx}
/-- a new cell -/
theorem Rel.addCell {ι W : List Addr} {M : Mem} {env : Env} {σ : L2.St} {H : Hp} {p : Addr} {o : HO} {cl : Cell} (r : Rel G B ι W M env σ H) (n : H p = none)
    (hc : ∀ ι1 C1 H1, Ext (ι ++ W) ι H C1 ι1 H1 → H1 p = some o → CellAt G B ι1 C1 H1 p cl) :
    Rel G B (ι ++ [p]) W (M ++ [cl]) env σ (upd H p o) ∧ Ext (ι ++ W) ι H (ι ++ [p] ++ W) (ι ++ [p]) (upd H p o) ∧ Grow ι H (ι ++ [p]) (upd H p o) := by
  have np : p ∉ ι ++ W := r.fresh n
  have E : Ext (ι ++ W) ι H (ι ++ [p] ++ W) (ι ++ [p]) (upd H p o) := ⟨List.prefix_append _ _, fun a u h _ => keep_upd n a u h, fun a m => by
    rcases List.mem_append.mp m with z | z
    · rcases List.mem_append.mp z with z | z
      · exact .inl (List.mem_append_left _ z)
      · rw [List.mem_singleton.mp z]; exact .inr n
    · exact .inl (List.mem_append_right _ z)⟩
  have GG : Grow ι H (ι ++ [p]) (upd H p o) := ⟨List.prefix_append _ _, fun a u h _ => keep_upd n a u h, fun a m => by
    rcases List.mem_append.mp m with z | z
    · exact .inl z
    · rw [List.mem_singleton.mp z]; exact .inr n⟩
  refine ⟨⟨?_, ?_, ?_, ?_, ?_, ?_, r.owns, r.sl, r.base.trans GG, r.wnew, r.wsub⟩, E, GG⟩
  · rw [List.length_append, List.length_append, r.len]; rfl
  · refine List.nodup_append.mpr ⟨r.nd, List.nodup_cons.mpr ⟨List.not_mem_nil, List.nodup_nil⟩, fun a ha b hb e => np (List.mem_append_left _ ?_)⟩
    rw [← List.mem_singleton.mp hb, ← e]; exact ha
  · intro a ha m
    rcases List.mem_append.mp m with z | z
    · exact r.dis a ha z
    · rw [List.mem_singleton.mp z] at ha; exact np (List.mem_append_right _ ha)
  · intro a m
    by_cases e : a = p
    · rw [e]; exact ⟨_, upd_same⟩
    · have : a ∈ ι ++ W := by
        rcases List.mem_append.mp m with z | z
        · rcases List.mem_append.mp z with z | z
          · exact List.mem_append_left _ z
          · exact (e (List.mem_singleton.mp z)).elim
        · exact List.mem_append_right _ z
      obtain ⟨u, h⟩ := r.live a this
      exact ⟨u, keep_upd n a u h⟩
  · intro k cc a e1 e2
    by_cases hk : k < M.length
    · rw [List.getElem?_append_left hk] at e1
      rw [List.getElem?_append_left (by rw [r.len]; exact hk)] at e2
      exact (r.cells k cc a e1 e2).ext E (keep_upd n a)
    · rw [List.getElem?_append_right (by omega)] at e1
      rw [List.getElem?_append_right (by rw [r.len]; omega)] at e2
      have z : k - M.length = 0 := by
        have := (List.getElem?_eq_some_iff.mp e1).1
        simp at this
        omega
      rw [z] at e1
      rw [r.len, z] at e2
      cases e1
      cases e2
      exact hc _ _ _ E upd_same
  · intro i s e
    obtain ⟨v, e1, h⟩ := r.slots i s e
    refine ⟨v, e1, ?_⟩
    exact h.ext GG r.dis
theorem s_new (g : GX T N G B Wx cf true sc so X) {x : Str} {i : Nat} {es : List Expr} {ms : List E} {p q r : Pos} (h1 : N[i]? = some x) (h2 : Loc so x) (hz : ms.length ≤ 1000) (hce : CE T N true sc (.es es) (.es ms)) : PS X (.Assign [.Name x q] (.List es r) p) (tS G B Wx cf T.sf (.new i (.lst ms))) := by
  refine PS.imp (ps_set (by rw [g.hN]; exact g.nd) (g.ix h1) (g.loc x h2).1 (pe_lst (sound hce G B Wx cf so X g)) rfl (g.loc x h2).2) fun Z σ H ⟨ι, W, M, env, r, hs⟩ => ?_
  have hs1 : SatS G B Wx W ι H (toS env ((evalEs cf T.sf env ms M).bind fun ds m1 => .ok (D.lst ds) m1) fun d m1 => match d with
    | .lst ds => .nx (env.set i (some (.val (.ref m1.length)))) (m1 ++ [.lst ds])
    | _ => .bad) Z := hs
  refine ⟨ι, W, M, env, r, ?_⟩
  cases hv : evalEs cf T.sf env ms M with
  | bad => rw [hv] at hs1; exact hs1
  | exc k a M' => rw [hv] at hs1; exact fun dd ι' H' r' x' g => hs1 dd σ ι' W H' r' x' g.addW
  | ok ds M' =>
    rw [hv] at hs1
    intro vs ι' H' r' hd g'
    refine ⟨by rw [hd.length, evalEs_len hv, sizeLine_eq]; omega, fun pa na => ?_⟩
    obtain ⟨R, E, GG⟩ := r'.addCell (o := .lst vs) (cl := .lst ds) na fun ι1 C1 H1 x e => ⟨vs, e, hd.ext x⟩
    have hden : Den G (ι' ++ [pa]) (ι' ++ [pa] ++ W) (upd H' pa (.lst vs)) (.ref M'.length) (.ref pa) := ⟨pa, by rw [← r'.len]; simp, rfl⟩
    exact hs1 _ (ι' ++ [pa]) W _ (R.set1 (mem_slot g h1) hden) (g'.addW.trans E)
/-- an own list is no longer one's own: it changes no more -/
theorem Rel.frz {ι W : List Addr} {M : Mem} {env : Env} {σ : L2.St} {H : Hp} {i : Nat} {ds : List D} (r : Rel G B ι W M env σ H) (e : env[i]? = some (some (.own (.lst ds)))) :
    ∃ W', Rel G B ι W' M (env.set i (some (.val (.lst ds)))) σ H ∧ Ext (ι ++ W) ι H (ι ++ W') ι H := by
  obtain ⟨v, e1, a, rfl, ma, nb, vs, eH, hds⟩ := r.slots i _ e
  have sub : ∀ b, b ∈ W.filter (fun b => b != a) → b ∈ W ∧ b ≠ a := fun b h => by
    have := List.mem_filter.mp h
    exact ⟨this.1, by simpa using this.2⟩
  have mk : ∀ b, b ∈ W → b ≠ a → b ∈ W.filter (fun b => b != a) := fun b h n => List.mem_filter.mpr ⟨h, by simpa using n⟩
  have E : Ext (ι ++ W) ι H (ι ++ W.filter (fun b => b != a)) ι H := ⟨List.prefix_refl _, fun _ _ h _ => h, fun b m => .inl (by
    rcases List.mem_append.mp m with z | z
    · exact List.mem_append_left _ z
    · exact List.mem_append_right _ (sub b z).1)⟩
  refine ⟨_, ⟨r.len, r.nd, fun b m => r.dis b (sub b m).1, fun b m => r.live b ?_, fun k c b q1 q2 => (r.cells k c b q1 q2).ext E fun _ h => h, fun j s q => ?_, fun j k d1 d2 v q1 q2 q3 q4 => ?_, r.sl, r.base, fun b m => r.wnew b (sub b m).1, fun b m => mk b (r.wsub b m) fun z => nb (by rw [← z]; exact m)⟩, E⟩
  · rcases List.mem_append.mp m with z | z
    · exact List.mem_append_left _ z
    · exact List.mem_append_right _ (sub b z).1
  · by_cases hj : i = j
    · subst hj
      rw [List.getElem?_set_self (List.getElem?_eq_some_iff.mp e).1] at q
      cases q
      refine ⟨.ref a, e1, a, vs, rfl, fun m => ?_, eH, hds.ext E⟩
      rcases List.mem_append.mp m with z | z
      · exact r.dis a ma z
      · exact (sub a z).2 rfl
    · rw [List.getElem?_set_ne hj] at q
      obtain ⟨v, q1, h⟩ := r.slots j s q
      refine ⟨v, q1, ?_⟩
      cases s with
      | val d => exact Den.ext E h
      | own d2 =>
        obtain ⟨b, z1, m2, nb2, z2⟩ := h
        refine ⟨b, z1, mk b m2 fun z => hj ?_, nb2, z2.ext E fun _ h => h⟩
        rw [z1, z] at q1
        exact r.owns i j _ d2 _ e q e1 q1
      | exn c act =>
        obtain ⟨ea, dd, av, z1, z2, z3, m, z⟩ := h
        exact ⟨ea, dd, av, z1, z2, z3, E.out z3 m, z.ext E⟩
  · have old : ∀ (j : Nat) (d1 : D), (env.set i (some (.val (.lst ds))))[j]? = some (some (Slot.own d1)) → env[j]? = some (some (Slot.own d1)) := fun j d1 q => by
      by_cases hj : i = j
      · subst hj
        rw [List.getElem?_set_self (List.getElem?_eq_some_iff.mp e).1] at q
        cases q
      · rw [List.getElem?_set_ne hj] at q; exact q
    exact r.owns j k d1 d2 v (old j d1 q1) (old k d2 q2) q3 q4
theorem s_ifS (g : GX T N G B Wx cf true sc so X) {e : Expr} {m : E} {a b : List Stmt} {ma mb : List S} {p : Pos} (hce : CE T N true sc (.e e) (.e m)) (ha : PSs X a (tSs G B Wx cf T.sf ma)) (hb : PSs X b (tSs G B Wx cf T.sf mb)) :
    PS X (.If e a b p) (tS G B Wx cf T.sf (.ife m ma mb)) := by
  refine PS.imp (ps_if (sound hce G B Wx cf so X g).2.1 ha hb) fun Z σ H ⟨ι, W, M, env, r, hs⟩ => stepS (f := fun k m1 => match k with
    | .bl true => execSs cf T.sf env ma m1
    | .bl false => execSs cf T.sf env mb m1
    | _ => .bad) r hs fun v H' ι' d M' r' hd g' h => ?_
  cases d with
  | bl k =>
    refine ⟨k, hd, ?_⟩
    cases k with
    | true => exact iteT ⟨ι', W, M', env, r', h⟩
    | false => exact iteF ⟨ι', W, M', env, r', h⟩
  | _ => exact h.elim
theorem s_for (g : GS T N G B Wx cf true sc X) {tg it : Expr} {t : Tg} {i : It} {b : List Stmt} {mb : List S} {p : Pos} (hct : CT N sc tg t) (hci : CE T N true sc (.it tg it) (.it i)) (hb : PSs X b (tSs G B Wx cf T.sf mb)) :
    PS X (.For tg it b [] p) (tS G B Wx cf T.sf (.for t i mb)) := by
  refine PS.imp (ps_for (g.po rfl) (g.x.calm rfl) (sound hci G B Wx cf sc X g.x) (s_T g.x (g.x.calm rfl) hct) hb (hci.noSet _)) fun Z σ H ⟨ι, W, M, env, r, hs⟩ => ?_
  have hsl : ∀ j ∈ t.slots, j < B.n := fun j h => by rw [g.x.bn]; exact hct.inN j h
  have hs1 : SatS G B Wx W ι H (toS env (evalI cf T.sf env i M) fun ds m1 => forGo (fun env m => execSs cf T.sf env mb m) t ds env m1) Z := hs
  refine ⟨ι, W, M, env, r, ?_⟩
  cases hI : evalI cf T.sf env i M with
  | bad => rw [hI] at hs1; exact hs1
  | exc k a M1 => rw [hI] at hs1; exact fun dd ι' H' r' x' g => hs1 dd σ ι' W H' r' x' g.addW
  | ok ds M1 =>
    rw [hI] at hs1
    intro J ι1 H1 r1 g1 w
    have hs2 : SatS G B Wx W ι1 H1 (forGo (fun env m => execSs cf T.sf env mb m) t ds env M1) Z := SatS.later g1.addW hs1
    obtain ⟨Gd, hGd, wk⟩ := w
    refine for_it wk (fun j σ' Hc => ∃ ιi Wi Mi envi, Rel G B ιi Wi Mi envi σ' Hc ∧ Ext (ι1 ++ W) ι1 H1 (ιi ++ Wi) ιi Hc ∧ SatS G B Wx Wi ιi Hc (forGo (fun env m => execSs cf T.sf env mb m) t (ds.drop j) envi Mi) Z) ?_ ?_ ?_ ?_
    · exact ⟨ι1, W, M1, env, r1, Ext.refl, hs2⟩
    · rintro j σ' Hc hj ⟨ιi, Wi, Mi, envi, ri, gi, _⟩
      exact hGd _ _ _ gi
    · rintro j x σ' Hc Hn hj ⟨ιi, Wi, Mi, envi, ri, gi, hgo⟩ ⟨kk, hy⟩
      obtain ⟨d, hd, dd⟩ := hy ιi (ιi ++ Wi) gi ri.liveL
      have hdrop : ds.drop j = d :: ds.drop (j + 1) := by
        obtain ⟨hb, e⟩ := List.getElem?_eq_some_iff.mp hd
        rw [List.drop_eq_getElem_cons hb, e]
      rw [hdrop] at hgo
      have rn : Rel G B ιi Wi Mi envi σ' Hn := ri.grow kk
      have en : Ext (ιi ++ Wi) ιi Hc (ιi ++ Wi) ιi Hn := (Grow.of_keep kk).addW
      have hgo' := SatS.later en hgo
      unfold forGo at hgo'
      cases hbt : bindT t d envi with
      | none => rw [hbt] at hgo'; exact hgo'.elim
      | some env' =>
        rw [hbt] at hgo'
        rw [g.x.hK]
        refine bind_ok rn dd hsl hbt fun σ2 r2 _ => ⟨ιi, Wi, Mi, env', r2, ?_⟩
        dsimp only at hgo'
        revert hgo'
        cases execSs cf T.sf env' mb Mi with
        | nx env2 M2 => exact fun h σ3 ι3 W3 H3 r3 x3 => ⟨ι3, W3, M2, env2, r3, (gi.trans en).trans x3, SatS.later x3 h⟩
        | cont env2 M2 => exact fun h σ3 ι3 W3 H3 r3 x3 => ⟨ι3, W3, M2, env2, r3, (gi.trans en).trans x3, SatS.later x3 h⟩
        | ret d2 M2 => exact fun h => h
        | exc k a env2 M2 => exact fun h => h
        | bad => exact fun h => h
    · rintro σ' Hc ⟨ιi, Wi, Mi, envi, ri, gi, hgo⟩
      rw [List.drop_length] at hgo
      exact hgo σ' ιi Wi Hc ri Ext.refl
end
end Mini

/-! A try with one handler; every statement. -/
namespace Mini
open PySem PySem.Spec PyProof.Rows L2
section
variable {T : Tb} {N : List Str} {G : Cfg} {B : Bs} {Wx : WX} {cf : CF} {c : Bool} {sc so : Scope} {X : Cx}
theorem GS.try_ (g : GS T N G B Wx cf true sc X) {Wx' : WX} {pn : List (Addr × Obj)} {xe : Value → Shared → Prop} (tk : Takes (X.tr pn xe) Wx') (po : PassesOwn (model X.prog X.w) X.A X.env xe) : GS T N G B Wx' cf true sc (X.tr pn xe) where
  x := g.su rfl _ _ _ tk po
  stk := g.stk
  fr := g.fr
  po := fun _ => po
  rz := fun h pn' xe' => g.rz h pn' xe'
  xi := g.xi
  su := fun h Wx'' pn' xe' tk' po' => g.su h Wx'' pn' xe' tk' po'
  sx := fun h a oe k dd pn' => g.sx h a oe k dd pn'
  ex := g.ex
theorem noExn_at : ∀ {env : Env} {j : Nat} {k : Nat} {act : D}, noExn env = true → env[j]? ≠ some (some (.exn k act))
  | [], _, _, _, _, e => by cases e
  | none :: r, 0, _, _, _, e => by cases e
  | some (.val _) :: r, 0, _, _, _, e => by cases e
  | some (.own _) :: r, 0, _, _, _, e => by cases e
  | some (.exn _ _) :: r, j, _, _, h, _ => by cases h
  | none :: r, j + 1, _, _, h, e => noExn_at (env := r) h e
  | some (.val _) :: r, j + 1, _, _, h, e => noExn_at (env := r) h e
  | some (.own _) :: r, j + 1, _, _, h, e => noExn_at (env := r) h e
theorem Rel.addExn {ι W : List Addr} {M : Mem} {env : Env} {σ : L2.St} {H : Hp} {i k : Nat} {a dd : Addr} {act : D} (r : Rel G B ι W M env σ H) (hx : B.xi = none) (hi : i < B.n) (x : XAt G ι (ι ++ W) H act dd) :
    Rel G { B with xi := some (a, k, dd) } ι W M (env.set i (some (.exn k act))) (σ.set i (some (.ref a))) H where
  len := r.len
  nd := r.nd
  dis := r.dis
  live := r.live
  cells := fun n cl b e1 e2 => by
    have := r.cells n cl b e1 e2
    cases cl <;> exact this
  slots := fun j s e => by
    by_cases hj : i = j
    · subst hj
      have hl : i < env.length := by
        have := (List.getElem?_eq_some_iff.mp e).1
        simpa using this
      rw [List.getElem?_set_self hl] at e
      cases e
      obtain ⟨av, e1, e2, e3⟩ := x
      exact ⟨.ref a, List.getElem?_set_self (by rw [r.sl]; exact hi), a, dd, av, rfl, rfl, e1, e2, e3⟩
    · rw [List.getElem?_set_ne hj] at e
      obtain ⟨w, e2, h2⟩ := r.slots j s e
      refine ⟨w, by rw [List.getElem?_set_ne hj]; exact e2, ?_⟩
      cases s with
      | val d => exact h2
      | own d => exact h2
      | exn k2 act2 =>
        obtain ⟨_, _, _, z, _⟩ := h2
        rw [hx] at z; cases z
  owns := fun j k2 d1 d2 w e1 e2 e3 e4 => by
    have hh : ∀ (j : Nat) (d1 : D) (w : V), (env.set i (some (.exn k act)))[j]? = some (some (Slot.own d1)) → (σ.set i (some (V.ref a)))[j]? = some (some w) → env[j]? = some (some (Slot.own d1)) ∧ σ[j]? = some (some w) := fun j d1 w e e3 => by
      by_cases hj : i = j
      · subst hj
        have hl : i < env.length := by
          have := (List.getElem?_eq_some_iff.mp e).1
          simpa using this
        rw [List.getElem?_set_self hl] at e
        cases e
      · rw [List.getElem?_set_ne hj] at e e3
        exact ⟨e, e3⟩
    obtain ⟨a1, b1⟩ := hh j d1 w e1 e3
    obtain ⟨a2, b2⟩ := hh k2 d2 w e2 e4
    exact r.owns j k2 d1 d2 w a1 a2 b1 b2
  sl := by rw [List.length_set]; exact r.sl
  base := r.base
  wnew := r.wnew
  wsub := r.wsub
theorem Rel.dropExn {ι W : List Addr} {M : Mem} {env : Env} {σ : L2.St} {H : Hp} {i : Nat} {xi : Option (Addr × Nat × Addr)} (r : Rel G { B with xi := xi } ι W M env σ H) (hn : noExn (env.set i none) = true) :
    Rel G B ι W M (env.set i none) (σ.set i none) H where
  len := r.len
  nd := r.nd
  dis := r.dis
  live := r.live
  cells := fun n cl b e1 e2 => by
    have := r.cells n cl b e1 e2
    cases cl <;> exact this
  slots := fun j s e => by
    by_cases hj : i = j
    · subst hj
      have hl : i < env.length := by
        have := (List.getElem?_eq_some_iff.mp e).1
        simpa using this
      rw [List.getElem?_set_self hl] at e
      cases e
    · have e' := e
      rw [List.getElem?_set_ne hj] at e
      obtain ⟨w, e2, h2⟩ := r.slots j s e
      refine ⟨w, by rw [List.getElem?_set_ne hj]; exact e2, ?_⟩
      cases s with
      | val d => exact h2
      | own d => exact h2
      | exn k2 act2 => exact (noExn_at hn e').elim
  owns := fun j k d1 d2 w e1 e2 e3 e4 => by
    have hh : ∀ (j : Nat) (d1 : D) (w : V), (env.set i none)[j]? = some (some (Slot.own d1)) → (σ.set i none)[j]? = some (some w) → env[j]? = some (some (Slot.own d1)) ∧ σ[j]? = some (some w) := fun j d1 w e e3 => by
      by_cases hj : i = j
      · subst hj
        have hl : i < env.length := by
          have := (List.getElem?_eq_some_iff.mp e).1
          simpa using this
        rw [List.getElem?_set_self hl] at e
        cases e
      · rw [List.getElem?_set_ne hj] at e e3
        exact ⟨e, e3⟩
    obtain ⟨a1, b1⟩ := hh j d1 w e1 e3
    obtain ⟨a2, b2⟩ := hh k d2 w e2 e4
    exact r.owns j k d1 d2 w a1 a2 b1 b2
  sl := by rw [List.length_set]; exact r.sl
  base := r.base
  wnew := r.wnew
  wsub := r.wsub
theorem s_try1 (g : GS T N G B Wx cf true sc X) {x n : Str} {k i : Nat} {b : List Stmt} {h0 : Stmt} {hs : List Stmt} {mb mh : List S} {p q r : Pos} (hk : T.cls.lookup x = some k) (hg : glb sc x) (hpl : plainN x = true) (hi : N[i]? = some n) (hl : sc.names.lookup n = some .local)
    (hb : ∀ (Wx' : WX) (X' : Cx), GS T N G B Wx' cf true sc X' → PSs X' b (tSs G B Wx' cf T.sf mb)) (hh : ∀ (B' : Bs) (X' : Cx), GS T N G B' noX cf false sc X' → PSs X' (h0 :: hs) (tSs G B' noX cf T.sf mh)) :
    PS X (.Try b [.ExceptHandler (some (.Name x q)) (some n) (h0 :: hs) r] [] [] p) (tS G B Wx cf T.sf (.try1 mb k i mh)) := by
  have e1 := g.stk rfl
  have ib : i < B.n := mem_slot g.x hi
  have hsu : ∀ (a : Addr) (oe : Obj) (cls : Value) (d : Option Addr) (pn : List (Addr × Obj)), Zc cls d oe → (∃ vs, oe.data = .fields vs) →
      PSs (X.suite a ((a, oe) :: pn)) (h0 :: hs) ((fun a cls d => fun Z σ H => ∃ k dd, cls = .ref (G.clA k) ∧ d = some dd ∧ T.sf k (some k) = true ∧ tSs G { B with xi := some (a, k, dd) } noX cf T.sf mh Z σ H : Addr → Value → Option Addr → TS) a cls d) := fun a oe cls d pn z f =>
    ⟨fun pins s σ H Z I hw => by
      obtain ⟨k, dd, rfl, rfl, kn, hw⟩ := hw
      have gx := g.sx rfl a oe k dd pn z f kn
      exact (hh _ _ ⟨gx, (fun h => by cases h), (fun h => by cases h), (fun h => by cases h), (fun h => by cases h), (fun h => by cases h), (fun h => by cases h), (fun h => by cases h), (fun h => by cases h)⟩).run pins s σ H Z I hw⟩
  have hnm : Names X x (.ref (G.clA k)) := ⟨g.x.gl hg, plain_dbg hpl, .inl (g.x.cls x k hk)⟩
  have hkind : X.env.kindOf n = some NameKind.local := by
    show X.env.scope.names.lookup n = _
    rw [g.x.hsc]; exact hl
  refine PS.imp (ps_try_as (i := i) (tb := fun W => tSs G B W cf T.sf mb) e1 (g.fr rfl) (by rw [g.x.hN]; exact g.x.nd) (g.x.ix hi) hkind hnm g.x.tk (fun W pn xe tk po => hb W _ (g.try_ tk po)) hsu) fun Z σ H ⟨ι, W, M, env, rr, hs⟩ => ?_
  have hs1 : SatS G B Wx W ι H (match execSs cf T.sf env mb M with
    | .exc k' act env' m1 => if T.sf k' (some k') = true then (if T.sf k' (some k) = true then (match execSs cf T.sf (env'.set i (some (.exn k' act))) mh m1 with
        | .nx env'' m2 => if noExn (env''.set i none) = true then .nx (env''.set i none) m2 else .bad
        | _ => .bad) else .exc k' act env' m1) else .bad
    | r => r) Z := hs
  refine ⟨ι, W, M, env, rr, ?_⟩
  revert hs1
  cases execSs cf T.sf env mb M with
  | nx env' M' => exact fun h => h
  | cont env' M' => exact fun h => h
  | ret d M' => exact fun h => h
  | bad => exact fun h => h
  | exc k' act env' M' =>
    intro hs1 dd σ' ι' W' H' r' x' ee
    dsimp only at hs1
    by_cases kn : T.sf k' (some k') = true
    case neg => rw [if_neg kn] at hs1; exact hs1.elim
    rw [if_pos kn] at hs1
    refine ⟨_, g.ex rfl k' k x kn hk, fun hb a ha => ?_, fun hb => ?_⟩
    · rw [if_pos hb] at hs1
      refine ⟨k', dd, rfl, rfl, kn, ι', W', M', _, r'.addExn (g.xi rfl) ib x', ?_⟩
      revert hs1
      cases execSs cf T.sf (env'.set i (some (.exn k' act))) mh M' with
      | nx env'' M'' =>
        intro hs1 σ'' ι'' W'' H'' r'' e''
        dsimp only at hs1
        by_cases hn : noExn (env''.set i none) = true
        · rw [if_pos hn] at hs1
          exact hs1 _ ι'' W'' H'' (r''.dropExn hn) (ee.trans e'')
        · rw [if_neg hn] at hs1; exact hs1.elim
      | cont _ _ => exact fun h => h.elim
      | ret _ _ => exact fun h => h.elim
      | exc _ _ _ _ => exact fun h => h.elim
      | bad => exact fun h => h.elim
    · rw [if_neg (by rw [hb]; exact Bool.false_ne_true)] at hs1
      exact hs1 dd σ' ι' W' H' r' x' ee
theorem s_setE (g : GX T N G B Wx cf c sc so X) : PSs X [] (tSs G B Wx cf T.sf []) := PSs.imp pss_nil fun Z σ H ⟨ι, W, M, env, r, hs⟩ => (show SatS G B Wx W ι H (.nx env M) Z from hs) σ ι W H r Ext.refl
theorem s_seq {s : Stmt} {ss : List Stmt} {m : S} {ms : List S} {sf : SF} (h : PS X s (tS G B Wx cf sf m)) (t : PSs X ss (tSs G B Wx cf sf ms)) : PSs X (s :: ss) (tSs G B Wx cf sf (m :: ms)) :=
  PSs.imp (pss_cons h t) fun Z σ H ⟨ι, W, M, env, r, hs⟩ => by
    have hs1 : SatS G B Wx W ι H (match execS cf sf env m M with | .nx env' m1 => execSs cf sf env' ms m1 | r => r) Z := hs
    refine ⟨ι, W, M, env, r, ?_⟩
    revert hs1
    cases execS cf sf env m M with
    | nx env' M' => exact fun h σ' ι' W' H' r' e' => ⟨ι', W', M', env', r', SatS.later e' h⟩
    | cont env' M' => exact fun h => h
    | ret d M' => exact fun h => h
    | bad => exact fun h => h
    | exc _ _ _ _ => exact fun h => h
theorem s_frz {ss : List Stmt} {ms : List S} {i : Nat} {sf : SF} (t : PSs X ss (tSs G B Wx cf sf ms)) : PSs X ss (tSs G B Wx cf sf (.frz i :: ms)) :=
  PSs.imp t fun Z σ H ⟨ι, W, M, env, r, hs⟩ => by
    have hs1 : SatS G B Wx W ι H (match (match ownL env i with
      | some ds => RS.nx (env.set i (some (.val (.lst ds)))) M
      | none => .nx env M) with | .nx env' m1 => execSs cf sf env' ms m1 | r => r) Z := hs
    cases e : ownL env i with
    | none => rw [e] at hs1; exact ⟨ι, W, M, env, r, hs1⟩
    | some ds =>
      rw [e] at hs1
      obtain ⟨W', r2, e2⟩ := r.frz (ownL_some e)
      exact ⟨ι, W', M, _, r2, SatS.later e2 hs1⟩
/-! ### every statement -/
def SndS (T : Tb) (N : List Str) (sc : Scope) (c : Bool) : Ss → Sm → Prop
  | .s x, .s m => ∀ (G : Cfg) (B : Bs) (Wx : WX) (cf : CF) (X : Cx), GS T N G B Wx cf c sc X → PS X x (tS G B Wx cf T.sf m)
  | .ss xs, .ss ms => ∀ (G : Cfg) (B : Bs) (Wx : WX) (cf : CF) (X : Cx), GS T N G B Wx cf c sc X → PSs X xs (tSs G B Wx cf T.sf ms)
  | _, _ => True
theorem soundS {sy : Ss} {tm : Sm} (h : CS T N sc c sy tm) : SndS T N sc c sy tm := by
  induction h with
  | set h1 h2 hce => exact fun G B Wx cf X g => s_set g.x h1 h2 hce
  | own h1 h2 hz hce => exact fun G B Wx cf X g => s_own g.x h1 h2 hz hce
  | new h1 h2 hz hce => exact fun G B Wx cf X g => s_new g.x h1 h2 hz hce
  | unp hct hce hn => exact fun G B Wx cf X g => s_unp g.x hct hce hn
  | sti h1 h2 h3 hn => exact fun G B Wx cf X g => s_sti g.x h1 h2 h3 hn
  | app h1 h2 h3 hl hce => exact fun G B Wx cf X g => s_app g.x h1 h2 h3 hl hce
  | exp hce hn => exact fun G B Wx cf X g => s_exp g.x hce hn
  | ret hce => exact fun G B Wx cf X g => s_ret g.x hce
  | raise hk hg hpl hce => exact fun G B Wx cf X g => s_raise g hk hg hpl hce
  | ife hce _ _ iha ihb => exact fun G B Wx cf X g => s_ifS g.x hce (iha G B Wx cf X g) (ihb G B Wx cf X g)
  | «for» hct hci _ ih => exact fun G B Wx cf X g => s_for g hct hci (ih G B Wx cf X g)
  | try1 hk hg hpl hi hl _ _ ihb ihh => exact fun G B Wx cf X g => s_try1 g hk hg hpl hi hl (fun Wx' X' g' => ihb G B Wx' cf X' g') (fun B' X' g' => ihh G B' noX cf X' g')
  | pass => exact fun G B Wx cf X g => PS.imp ps_pass fun Z σ H ⟨ι, W, M, env, r, hs⟩ => (show SatS G B Wx W ι H (.nx env M) Z from hs) σ ι W H r Ext.refl
  | cont => exact fun G B Wx cf X g => PS.imp ps_continue fun Z σ H ⟨ι, W, M, env, r, hs⟩ => (show SatS G B Wx W ι H (.cont env M) Z from hs) σ ι W H r Ext.refl
  | nil => exact fun G B Wx cf X g => s_setE g.x
  | cons _ _ ihs iht => exact fun G B Wx cf X g => s_seq (ihs G B Wx cf X g) (iht G B Wx cf X g)
  | frz _ ih => exact fun G B Wx cf X g => s_frz (ih G B Wx cf X g)
end
end Mini

/-! The program's exceptions: their classes, what a suite asks of one, their making. -/
namespace Mini
open PySem PySem.Spec PyProof.Rows L2
structure KFact (K : PySem.W.Frag) (fI C : Addr) : Prop where
  oex : OexC K C
  ex : ExcC K C
  act : PySem.W.findIn K (.ref C) "act" = some none
  init : PySem.W.findIn K (.ref C) "__init__" = some (some (.ref fI))
  iscls : (PySem.W.clsIn K C).isSome = true
def oexB (K : PySem.W.Frag) (C : Addr) : Bool := match K.lookup C with
  | some ⟨.type "type", _, .cls cd, sl⟩ => match cd.mro, sl.toList with
    | .ref C' :: bm, [_, _, _, _, some (.builtin n), _] => C' == C && n == "ValueError.__new__" && !cd.hasDel && HandSPX.refsVE bm && cd.hasDict
    | _, _ => false
  | _ => false
theorem oexB_ok {K : PySem.W.Frag} {C : Addr} (h : oexB K C = true) : ∃ nm q N bs bm sn sub ab col dd k0 k1 k2 k3 k5, K.lookup C = some (excClassObj nm q C N bs bm true sn sub ab col dd k0 k1 k2 k3 k5 "ValueError.__new__") ∧ HandSPX.refsVE bm = true := by
  unfold oexB at h
  split at h
  · rename_i dd cd sl e
    split at h
    · rename_i C' bm k0 k1 k2 k3 n k5 em es
      simp only [Bool.and_eq_true, beq_iff_eq, Bool.not_eq_true'] at h
      obtain ⟨⟨⟨⟨h1, h2⟩, h3⟩, h4⟩, h5⟩ := h
      obtain ⟨nm, bs, mro, ns, qn, hd, sn, sub, ab, col, del⟩ := cd
      simp only at em h3 h5
      have esl : sl = #[k0, k1, k2, k3, some (.builtin n), k5] := by rw [← Array.toArray_toList (xs := sl), es]
      subst h1 h2 h3 h5 em esl
      exact ⟨nm, qn, ns, bs, bm, sn, sub, ab, col, dd, k0, k1, k2, k3, k5, e, h4⟩
    · cases h
  · cases h
def kfB (K : PySem.W.Frag) (fI C : Addr) : Bool :=
  oexB K C && decide (PySem.W.findIn K (.ref C) "__setattr__" = some (some (.builtin "object.__setattr__"))) && decide (PySem.W.subIn K (.ref C) (.type "BaseException") = some true) &&
  decide (PySem.W.typeIn K (.ref C) = some (.type "type")) && PySem.W.keepIn K (.ref C) &&
  decide (PySem.W.findIn K (.ref C) "__getattribute__" = some (some (.builtin "BaseException.__getattribute__"))) && decide (PySem.W.findIn K (.ref C) "__getattr__" = some none) &&
  PySem.W.hasDictIn K C && decide (PySem.W.findIn K (.ref C) "__class__" = some (some (.builtin "object.__class__"))) &&
  decide (PySem.W.specialIn K (.builtin "object.__class__") "__get__" = some (some (.builtin "getset_descriptor.__get__"))) && decide (PySem.W.takesIn K (.builtin "object.__class__") = some true) &&
  decide (PySem.W.mroIn K C (.type "object") = some true) && decide (PySem.W.findIn K (.ref C) "act" = some none) && decide (PySem.W.findIn K (.ref C) "__init__" = some (some (.ref fI))) && (PySem.W.clsIn K C).isSome
theorem kfB_ok {K : PySem.W.Frag} {fI C : Addr} (h : kfB K fI C = true) : KFact K fI C := by
  simp only [kfB, Bool.and_eq_true, decide_eq_true_eq] at h
  obtain ⟨⟨⟨⟨⟨⟨⟨⟨⟨⟨⟨⟨⟨⟨h1, h2⟩, h3⟩, h4⟩, h5⟩, h6⟩, h7⟩, h8⟩, h9⟩, h10⟩, h11⟩, h12⟩, h13⟩, h14⟩, h15⟩ := h
  exact ⟨⟨oexB_ok h1, h2, h3, h4, h5⟩, ⟨h6, h7, h3, h8, h9, h10, h11, h12⟩, h13, h14, h15⟩
section
variable {X : Cx} {a C dd : Addr} {oe : Obj} {pn : List (Addr × Obj)}
/-- isinstance of a caught exception that has a dict -/
theorem call_isM (c : ExcC X.K C) (hc : (PySem.W.clsIn X.K C).isSome = true) (z : Zc (.ref C) (some dd) oe) (f : ∃ vs, oe.data = .fields vs) :
    CallR (X.suite a ((a, oe) :: pn)) (.builtin "isinstance") (fun xs H Q => ∃ v cv b fs, xs = [.ref a, v] ∧ (∀ u, RelV v u → u = cv) ∧ PySem.W.kitOne X.K (.ref C) cv = some b ∧ H dd = some (.xd fs) ∧ Q (.bl b) H) := by
  rintro pins s σ H xs us Q I rv ⟨v, cv, b, fs, rfl, hu, hk, hd, hq⟩
  obtain ⟨u1, us1, rfl, r1, r2⟩ : ∃ u1 us1, us = u1 :: us1 ∧ RelV (.ref a) u1 ∧ Vals [v] us1 := by
    cases rv with
    | cons h t => exact ⟨_, _, rfl, h, t⟩
  obtain ⟨u2, rfl, r3⟩ : ∃ u2, us1 = [u2] ∧ RelV v u2 := by
    cases r2 with
    | cons h t => cases t with
      | nil => exact ⟨_, rfl, h⟩
  have e1 : u1 = .ref a := r1
  have e2 := hu u2 r3
  subst e1 e2
  have hp := (I.pin (a, oe) (List.mem_append_left _ (List.mem_cons_self ..))).1
  obtain ⟨mA, n1, _⟩ : ∃ mA, s.heap.Ns1 dd mA ∧ ∀ (f : Str), RelO (List.lookup f fs) (mA f) := by
    have := I.hok dd _ hd
    simpa only [ObjOk] using this
  obtain ⟨od, es, ep, hod, _⟩ := n1
  have hi : PySem.W.InstAt s.heap a oe C (some od) := ⟨hp, z.1, by
    obtain ⟨vs, e⟩ := f
    simp [PySem.W.notCls, e], by rw [z.2]; exact hod⟩
  exact PySem.W.kia_one (PySem.W.kitx_exc hc c.hg c.hk c.hs c.ha c.hn c.ht c.hm) I.kIn hi hk (by simp) fun tk => ⟨.bl b, H, I.tok tk, rfl, hq⟩
/-! ### what the text says when it makes one -/
/-- __init__(self, act) of the program's exceptions -/
def spI (K : PySem.W.Frag) : Sp := fun vs H Q _ => ∃ a v C, vs = [.ref a, v] ∧ OexC K C ∧ PySem.W.findIn K (.ref C) "act" = some none ∧ H a = some (exo a C none) ∧ ∀ d, H d = none → d ≠ a → Q .non (upd (upd H d (exd d [(actN, v)])) a (exo a C (some d)))
/-- its body -/
def bodyI (p : Nat → Pos) (k : Nat) : List Stmt :=
  [.Expr (.Call (.Attribute (.Name "ValueError" (p 0)) "__init__" (p 1)) [.Name "self" (p 2), .Constant (.str "refused") k (p 3)] [] (p 4)) (p 5),
   .Assign [.Attribute (.Name "self" (p 6)) "act" (p 7)] (.Name "act" (p 8)) (p 9)]
def posI : List Stmt → Nat → Pos
  | [.Expr (.Call (.Attribute (.Name _ p0) _ p1) [.Name _ p2, .Constant _ _ p3] [] p4) p5, .Assign [.Attribute (.Name _ p6) _ p7] (.Name _ p8) p9], i => match i with
    | 0 => p0
    | 1 => p1
    | 2 => p2
    | 3 => p3
    | 4 => p4
    | 5 => p5
    | 6 => p6
    | 7 => p7
    | 8 => p8
    | _ => p9
  | _, _ => ⟨0, 0, 0, 0⟩
theorem ok_init {P : Program} {w : World} {K : PySem.W.Frag} {mg : Str → Option Value} {base : Heap} {CX : CXT} {params : Arguments} {p : Nat → Pos} {k : Nat} {scope : Scope} {dvs : List V} {f : Addr} {fd : FuncData} {x q : Str}
    (F : FunD K x q params (bodyI p k) scope dvs [] f fd) (hs : scope = { kind := .function, names := [("self", .local), ("act", .local), ("ValueError", .globalImplicit)], isGenerator := false, isCoroutine := false })
    (he : ∀ env : PySem.Env, ∃ pl, eval (.Call (.Attribute (.Name "ValueError" (p 0)) "__init__" (p 1)) [.Name "self" (p 2), .Constant (.str "refused") k (p 3)] [] (p 4)) env = (do
      let ov ← eval (.Name "ValueError" (p 0)) env
      standAt (p 1).atName
      let (f, first) ← holding [ov] (getMethod ov "__init__" pl)
      callWith (p 4) f first (backTo (p 4) (starEach [.Name "self" (p 2), .Constant (.str "refused") k (p 3)] env)) (backToKw (p 4) (keywordEach [] env))))
    (mv : mg "ValueError" = none) (hf : PySem.W.findCls K (.type "ValueError") (.type "type") "__init__" = some (.val (.builtin "ValueError.__init__"))) :
    FnOk P w K mg base CX 1 f fd ["self", "act"] (spI K) := by
  have sc : FnScope ["self", "act"] ["self", "act"] scope := by
    rw [hs]
    exact ⟨rfl, rfl, rfl, by decide +kernel, rfl, by decide +kernel, by decide +kernel⟩
  refine F.ok sc (fun vs H Q E h => ?_) (fun cdv A outer s H vs Q E hr h => ?_)
  · obtain ⟨a, v, C, rfl, _⟩ := h
    rfl
  · have v0 : Vis scope "self" := by rw [hs]; exact .inl rfl
    have v1 : Vis scope "act" := by rw [hs]; exact .inl rfl
    have gv : Gl (cxOf CX P w K mg base ["self", "act"] q scope f cdv A outer s H E) "ValueError" := by
      show scope.names.lookup ("ValueError" : Str) = _
      rw [hs]; decide +kernel
    obtain ⟨pl, he⟩ := he (cxOf CX P w K mg base ["self", "act"] q scope f cdv A outer s H E).env
    refine ⟨_, pss_cons (ps_expr (pe_veinit (X := cxOf CX P w K mg base ["self", "act"] q scope f cdv A outer s H E) gv mv hf (pa_cons (pe_var (i := 0) rfl v0) (pa_cons pe_str pa_nil)) he)) (pss_one (ps_ost (pe_var (i := 0) rfl v0) (pe_var (i := 1) rfl v1))), ?_⟩
    obtain ⟨a, v, C, rfl, o, na, ha, hq⟩ := h
    refine ⟨_, rfl, a, C, _, rfl, by simp, o, ha, ?_⟩
    refine ⟨_, rfl, _, rfl, a, C, rfl, o, na, .inl ⟨ha, fun dx n ne => hq dx n ne⟩⟩
/-- the making of one, to be raised -/
theorem mk_exc {X : Cx} {fI C : Addr} {fdI : FuncData} {CX : CXT} {x : Str} {e : Expr} {ta : TA} {p q : Pos} (kf : KFact X.K fI C) (F : FnOk X.prog X.w X.K X.mg X.base CX 1 fI fdI ["self", "act"] (spI X.K)) (ty : PySem.W.typeIn X.K (.ref fI) = some (.type "function"))
    (hr : Room 2 X.A) (b : Binds X.K fdI ["self", "act"] []) (ps : Passes CX X fun _ _ _ => False) (g : Gl X x) (m : X.mg x = some (.ref C)) (h : PA X [e] ta) (hd : (x == ("__debug__" : Str)) = false) (st : starEach [e] X.env = (false, eval e X.env) :: starEach [] X.env)
    (mono : ∀ (σ : L2.St) (H : Hp) (Q Q' : List V → Hp → Prop), (∀ vs H, Q vs H → Q' vs H) → ta σ H Q → ta σ H Q') :
    PMk X (.Call (.Name x q) [e] [] p) (fun σ H Q => ta σ H fun vs H1 => ∃ v, vs = [v] ∧ ∀ d H2, (∀ a u, H1 a = some u → H2 a = some u) → H1 d = none → H2 d = some (.xd [(actN, v)]) → Q (.ref C) (some d) H2) := by
  have M := pmk_oex (pos := p) (p := q) kf.oex kf.init ty F hr b (.nil) ps g m h hd st rfl
  intro pins s σ H Q I hw
  refine M pins s σ H Q I ?_
  refine mono σ H _ _ (fun vs H1 hv => ?_) hw
  obtain ⟨v, rfl, hq⟩ := hv
  refine ⟨by simp, fun a na => ⟨a, v, C, rfl, kf.oex, kf.act, upd_same, fun d nd ne => ⟨rfl, d, [(actN, v)], upd_same, ?_, ?_, ?_⟩⟩⟩
  · rw [upd_ne ne, upd_same]
  · rw [upd_ne ne] at nd; exact nd
  · have nd' : H1 d = none := by rw [upd_ne ne] at nd; exact nd
    refine hq d _ (fun b u hb => ?_) nd' upd_same
    have bd : b ≠ d := fun z => by rw [z, nd'] at hb; cases hb
    have ba : b ≠ a := fun z => by rw [z, na] at hb; cases hb
    rw [upd_ne bd, del_ne ba, upd_ne ba, upd_ne bd, upd_ne ba]
    exact hb
end
end Mini

/-! Functions: each def keeps the promise that the small language's function makes. -/
namespace Mini
open PySem PySem.Spec PyProof.Rows L2
structure FnT where
  nm : Str
  qual : Str
  params : Arguments
  body : List Stmt
  scope : Scope
  dvs : List V
  ps : List Str
  N : List Str
  fn : Fn
def Pm (P : Nat → Option FnT) (f : Nat) : Option Fn := (P f).map (·.fn)
/-- what is known of the text -/
structure StF (T : Tb) (P : Nat → Option FnT) : Prop where
  sc : ∀ (f : Nat) (t : FnT), P f = some t → FnScope t.N t.ps t.scope
  cs : ∀ (f : Nat) (t : FnT), P f = some t → CS T t.N t.scope true (.ss t.body) (.ss t.fn.body)
  np : ∀ (f : Nat) (t : FnT), P f = some t → T.np f = t.ps.length ∧ t.fn.np = t.ps.length ∧ t.fn.ns = t.N.length
  fns : ∀ (x : Str) (f : Nat), T.fns.lookup x = some f → ∃ t, P f = some t
  cls : ∀ (x : Str) (k : Nat), T.cls.lookup x = some k → T.sf k (some k) = true
/-- .. of the world -/
structure Wd (T : Tb) (P : Nat → Option FnT) (G : Cfg) (mg : Str → Option Value) : Prop where
  fre : ∀ x ∈ T.fre, mg x = none
  con : ∀ x d, T.con.lookup x = some d → ∃ u v, mg x = some u ∧ RelV v u ∧ ∀ ι C H, Den G ι C H d v
  fns : ∀ x f, T.fns.lookup x = some f → mg x = some (.ref (G.fnA f)) ∧ PySem.W.keepIn G.K (.ref (G.fnA f)) = true
  fd : ∀ (f : Nat) (t : FnT), P f = some t → ∃ fd, FunD G.K t.nm t.qual t.params t.body t.scope t.dvs [] (G.fnA f) fd
  bind : ∀ (f : Nat) (t : FnT) (fd : FuncData), P f = some t → FunD G.K t.nm t.qual t.params t.body t.scope t.dvs [] (G.fnA f) fd → ∀ j, j ≤ (T.dfl f).length → ∃ (ds : List Value) (dvs : List V), Vals dvs ds ∧ (∀ ι C H, Dens G ι C H ((T.dfl f).drop j) dvs) ∧ Binds G.K fd t.ps ds
  cls : ∀ x k, T.cls.lookup x = some k → mg x = some (.ref (G.clA k))
  kf : ∃ (fI : Addr) (fdI : FuncData), (∀ k, T.sf k (some k) = true → KFact G.K fI (G.clA k)) ∧ (∀ (P : Program) (w : World) (base : Heap) (CX : CXT), FnOk P w G.K mg base CX 1 fI fdI ["self", "act"] (spI G.K)) ∧ PySem.W.typeIn G.K (.ref fI) = some (.type "function") ∧ Binds G.K fdI ["self", "act"] []
  ex : ∀ (k j : Nat) (y : Str), T.sf k (some k) = true → T.cls.lookup y = some j → PySem.W.exmOne G.K (.ref (G.clA k)) (.ref (G.clA j)) = some (T.sf k (some j))
  kit : ∀ (k j : Nat) (y : Str), T.sf k (some k) = true → T.cls.lookup y = some j → PySem.W.kitOne G.K (.ref (G.clA k)) (.ref (G.clA j)) = some (T.sf k (some j))
  kitV : ∀ (k : Nat), T.sf k (some k) = true → PySem.W.kitOne G.K (.ref (G.clA k)) (.type "ValueError") = some (T.sf k none)
section
variable {T : Tb} {N : List Str} {P : Nat → Option FnT} {G : Cfg} {B : Bs} {Wx : WX} {mg : Str → Option Value} {cf : CF} {sc : Scope} {X : Cx}
theorem GX.of (wd : Wd T P G mg) (sf : StF T P) {k : Nat} (hK : X.K = G.K) (hmg : X.mg = mg) (hN : X.N = N) (nd : N.Nodup) (hsc : X.env.scope = sc) (hfn : ∀ x, X.fn x = true) (un : X.A.units + 66 < cLine) (calm : X.calm = true) (rm : Room (k + 2) X.A) (tk : Takes X Wx) (bn : B.n = N.length)
    (fo : ∀ (f : Nat) (t : FnT), P f = some t → ∃ fd, FunD G.K t.nm t.qual t.params t.body t.scope t.dvs [] (G.fnA f) fd ∧ FnOk X.prog X.w X.K X.mg X.base (L2.CX X.prog X.w) (k + 2) (G.fnA f) fd t.ps (spM G B.N cf (T.np f) f)) : GX T N G B Wx cf true sc sc X where
  hK := hK
  hN := hN
  nd := nd
  hsc := hsc
  un := un
  calm := fun _ => calm
  fre := by rw [hmg]; exact wd.fre
  con := by rw [hmg]; exact wd.con
  fns := fun _ x f h => by
    obtain ⟨t, ht⟩ := sf.fns x f h
    obtain ⟨fd, F, O⟩ := fo f t ht
    obtain ⟨a, b⟩ := wd.fns x f h
    exact ⟨by rw [hmg]; exact a, by rw [hK]; exact b, ⟨k + 2, fd, t.ps, (sf.np f t ht).1.symm, O, rm, fun j hj => by rw [hK]; exact wd.bind f t fd ht F j hj⟩⟩
  loc := fun x h => ⟨by rw [hsc]; exact h, .inl (hfn x)⟩
  tk := tk
  bn := bn
  cls := by rw [hmg]; exact wd.cls
  xis := fun h => by cases h
  xac := fun h => by cases h
/-- .. in an except suite -/
theorem GX.ofS (wd : Wd T P G mg) (hK : X.K = G.K) (hmg : X.mg = mg) (hN : X.N = N) (nd : N.Nodup) (hsc : X.env.scope = sc) (hfn : ∀ x, X.fn x = true) (un : X.A.units + 66 < cLine) (bn : B.n = N.length)
    {a : Addr} {oe : Obj} {k : Nat} {dd : Addr} {pn : List (Addr × Obj)} (z : Zc (.ref (G.clA k)) (some dd) oe) (f : ∃ vs, oe.data = .fields vs) (kn : T.sf k (some k) = true) : GX T N G { B with xi := some (a, k, dd) } noX cf false sc sc (X.suite a ((a, oe) :: pn)) where
  hK := hK
  hN := hN
  nd := nd
  hsc := hsc
  un := un
  calm := fun h => by cases h
  fre := by show ∀ x ∈ T.fre, X.mg x = none; rw [hmg]; exact wd.fre
  con := by show ∀ x d, T.con.lookup x = some d → ∃ u v, X.mg x = some u ∧ RelV v u ∧ ∀ ι C H, Den G ι C H d v; rw [hmg]; exact wd.con
  fns := fun h => by cases h
  loc := fun x h => ⟨by show Loc X.env.scope x; rw [hsc]; exact h, .inl (hfn x)⟩
  tk := by
    rintro u s' ⟨_, _, _, _, _, _, _, _, _, _, _, _, _, _, _, _, h⟩
    exact h.elim
  bn := bn
  cls := by show ∀ x k, T.cls.lookup x = some k → X.mg x = some (.ref (G.clA k)); rw [hmg]; exact wd.cls
  xis := fun _ ea k' dd' e => by
    obtain ⟨fI, fdI, kf, _⟩ := wd.kf
    cases e
    have kk := kf k kn
    refine fun pins s σ H xs us Q I rv hr => call_isM (by rw [hK]; exact kk.ex) (by rw [hK]; exact kk.iscls) z f pins s σ H xs us Q I rv ?_
    obtain ⟨v, o, fs, rfl, hv, hd, hq⟩ := hr
    rcases hv with ⟨rfl, rfl⟩ | ⟨y, j, hj, rfl, rfl⟩
    · exact ⟨_, .type "ValueError", _, fs, rfl, fun u h => h, by rw [hK]; exact wd.kitV k kn, hd, hq⟩
    · exact ⟨_, .ref (G.clA j), _, fs, rfl, fun u h => h, by rw [hK]; exact wd.kit k j y kn hj, hd, hq⟩
  xac := fun _ ea k' dd' e x i p q h => by
    obtain ⟨fI, fdI, kf, _⟩ := wd.kf
    cases e
    have kk := kf k kn
    have xf : XfC X.K (G.clA k) := by rw [hK]; exact ⟨kk.ex.hg, kk.ex.hk, kk.ex.hs, kk.ex.hd⟩
    have hp := pe_xf (pos := p) (n := actN) xf (by rw [hK]; exact kk.act) z f h rfl
    refine PE.imp hp fun σ H Q ⟨v, e1, e2, fs, u, e3, e4, e5⟩ => ⟨v, e1, e2, rfl, dd, fs, u, rfl, e3, e4, e5⟩
/-! ### a def -/
theorem start_eq (N : List Str) (vs : List V) : L2.start N vs = vs.map some ++ List.replicate (N.length - vs.length) none := rfl
theorem start_rel {W ι : List Addr} {M : Mem} {H : Hp} {ds : List D} {vs : List V} {nm : FdN} {ns : Nat} (r : Rel G ⟨ι, W, H, nm, 0, none⟩ ι W M [] [] H) (hd : Dens G ι (ι ++ W) H ds vs) (hn : ns = N.length) (hl : vs.length ≤ N.length) :
    Rel G ⟨ι, W, H, nm, N.length, none⟩ ι W M (startE ds ns) (L2.start N vs) H where
  len := r.len
  nd := r.nd
  dis := r.dis
  live := r.live
  cells := fun n cl b e1 e2 => by
    have := r.cells n cl b e1 e2
    cases cl <;> exact this
  slots := fun i s e => by
    unfold startE at e
    by_cases hi : i < ds.length
    · rw [List.getElem?_append_left (by simpa using hi), List.getElem?_map] at e
      cases hq : ds[i]? with
      | none => rw [hq] at e; cases e
      | some d =>
        rw [hq] at e
        cases e
        obtain ⟨v, hv, hdv⟩ := hd.get hq
        refine ⟨v, ?_, hdv⟩
        rw [start_eq, List.getElem?_append_left (by rw [List.length_map]; exact (List.getElem?_eq_some_iff.mp hv).1), List.getElem?_map, hv]
        rfl
    · rw [List.getElem?_append_right (by simpa using hi)] at e
      obtain ⟨_, e⟩ := List.getElem?_eq_some_iff.mp e
      rw [List.getElem_replicate] at e
      cases e
  owns := fun i j d1 d2 v e1 e2 e3 e4 => by
    exfalso
    unfold startE at e1
    by_cases hi : i < ds.length
    · rw [List.getElem?_append_left (by simpa using hi), List.getElem?_map] at e1
      cases hq : ds[i]? with
      | none => rw [hq] at e1; cases e1
      | some d => rw [hq] at e1; cases e1
    · rw [List.getElem?_append_right (by simpa using hi)] at e1
      obtain ⟨_, e⟩ := List.getElem?_eq_some_iff.mp e1
      rw [List.getElem_replicate] at e
      cases e
  sl := by
    rw [start_eq, List.length_append, List.length_map, List.length_replicate]
    show vs.length + (N.length - vs.length) = N.length
    omega
  base := r.base
  wnew := r.wnew
  wsub := r.wsub
/-- what is left of a frame when it ends -/
theorem Rel.leave {W W' ι ι' : List Addr} {M' : Mem} {H H' : Hp} {nm : FdN} {n : Nat} {env : Env} {σ : L2.St} (r : Rel G ⟨ι, W, H, nm, n, none⟩ ι' W' M' env σ H') :
    Rel G ⟨ι, W, H, nm, 0, none⟩ ι' W M' [] [] H' ∧ Grow ι H ι' H' ∧ Ext (ι' ++ W') ι' H' (ι' ++ W) ι' H' := by
  have E : Ext (ι' ++ W') ι' H' (ι' ++ W) ι' H' := ⟨List.prefix_refl _, fun _ _ h _ => h, fun b m => .inl (by
    rcases List.mem_append.mp m with z | z
    · exact List.mem_append_left _ z
    · exact List.mem_append_right _ (r.wsub b z))⟩
  refine ⟨⟨r.len, r.nd, fun a m => r.dis a (r.wsub a m), fun a m => r.live a ?_, fun k c b q1 q2 => ?_, fun i s e => by simp at e, fun i j d d' v e => by simp at e, rfl, r.base, fun a m => .inl m, fun a m => m⟩, r.base, E⟩
  · rcases List.mem_append.mp m with z | z
    · exact List.mem_append_left _ z
    · exact List.mem_append_right _ (r.wsub a z)
  · have := (r.cells k c b q1 q2).ext E fun _ h => h
    cases c <;> exact this
theorem passesN : Passes (L2.CX X.prog X.w) X fun _ _ _ => False := by
  rintro pins σ H s e s' I ⟨_, _, _, _, _, _, _, _, _, _, _, _, h⟩
  exact h.elim
theorem fns_ok (wd : Wd T P G mg) (sf : StF T P) (nm : FdN) (Pg : Program) (w : World) (base : Heap) : ∀ (k f : Nat) (t : FnT), P f = some t →
    ∃ fd, FunD G.K t.nm t.qual t.params t.body t.scope t.dvs [] (G.fnA f) fd ∧ FnOk Pg w G.K mg base (L2.CX Pg w) (k + 2) (G.fnA f) fd t.ps (spM G nm (callN (Pm P) T.sf k) (T.np f) f)
  | 0, f, t, ht => by
    obtain ⟨fd, F⟩ := wd.fd f t ht
    refine ⟨fd, F, F.ok (sf.sc f t ht) (fun vs H Q E h => ?_) fun cdv A outer s H vs Q E hr h => ?_⟩
    · obtain ⟨_, _, _, _, h, _⟩ := h
      exact h.trans (sf.np f t ht).1
    · obtain ⟨_, _, _, _, _, _, _, h⟩ := h
      exact h.elim
  | k + 1, f, t, ht => by
    have IH := fns_ok wd sf nm Pg w base k
    obtain ⟨fd, F⟩ := wd.fd f t ht
    obtain ⟨n1, n2, n3⟩ := sf.np f t ht
    have SC := sf.sc f t ht
    refine ⟨fd, F, F.ok SC (fun vs H Q E h => ?_) fun cdv A outer s H vs Q E hr h => ?_⟩
    · obtain ⟨_, _, _, _, h, _⟩ := h
      exact h.trans n1
    · obtain ⟨ι, W, M, ds, hl, r, hd, hs⟩ := h
      have hrun : callN (Pm P) T.sf (k + 1) f ds M = runFn (callN (Pm P) T.sf k) T.sf t.fn ds M := by
        simp [callN, Pm, ht]
      rw [hrun] at hs
      have hlen : ds.length = t.fn.np := by rw [← hd.length, hl, n1, n2]
      unfold runFn at hs
      rw [if_pos hlen] at hs
      let X := cxOf (L2.CX Pg w) Pg w G.K mg base t.N t.qual t.scope (G.fnA f) cdv A outer s H E
      have tk : Takes X (fun cls d _ H => E cls d H) := takes_of rfl rfl rfl rfl
      have po : PassesOwn (model X.prog X.w) X.A X.env X.xe := passes_of rfl
      have un : X.A.units + 66 < cLine := by have := hr.un; show (A.deeper _).units + 66 < cLine; omega
      have fo : ∀ (f : Nat) (t : FnT), P f = some t → ∃ fd, FunD G.K t.nm t.qual t.params t.body t.scope t.dvs [] (G.fnA f) fd ∧ FnOk Pg w G.K mg base (L2.CX Pg w) (k + 2) (G.fnA f) fd t.ps (spM G nm (callN (Pm P) T.sf k) (T.np f) f) := IH
      have gs : GS T t.N G ⟨ι, W, H, nm, t.N.length, none⟩ (fun cls d _ H => E cls d H) (callN (Pm P) T.sf k) true t.scope X := {
        x := GX.of (k := k) wd sf rfl rfl rfl SC.nd rfl (fun _ => rfl) un rfl hr tk rfl fo
        stk := fun _ => rfl
        fr := fun _ => rfl
        po := fun _ => po
        rz := fun _ pn xe x k hk hg hpl e ta p q hst hmono hpa => by
          obtain ⟨fI, fdI, kf, fok, ty, b⟩ := wd.kf
          exact mk_exc (kf k (sf.cls x k hk)) (fok Pg w base (L2.CX Pg w)) ty (hr.mono (by omega)) b passesN hg (wd.cls x k hk) hpa (plain_dbg hpl) hst hmono
        xi := fun _ => rfl
        su := fun _ Wx' pn xe tk' po' => GX.of (k := k) wd sf rfl rfl rfl SC.nd rfl (fun _ => rfl) un rfl hr tk' rfl fo
        sx := fun _ a oe k dd pn z fl kn => GX.ofS wd rfl rfl rfl SC.nd rfl (fun _ => rfl) un rfl z fl kn
        ex := fun _ k j y kn hj => wd.ex k j y kn hj }
      have hb := soundS (sf.cs f t ht) G ⟨ι, W, H, nm, t.N.length, none⟩ (fun cls d _ H => E cls d H) (callN (Pm P) T.sf k) X gs
      have hl2 : vs.length ≤ t.N.length := by
        have := congrArg List.length SC.pre
        rw [List.length_take] at this
        rw [hl, n1]; omega
      refine ⟨_, hb, ι, W, M, startE ds t.fn.ns, start_rel r hd n3 hl2, ?_⟩
      revert hs
      cases execSs (callN (Pm P) T.sf k) T.sf (startE ds t.fn.ns) t.fn.body M with
      | nx env' M' =>
        intro hs σ' ι' W' H' r' e'
        obtain ⟨r2, g2, x2⟩ := r'.leave
        exact hs .non ι' H' r2 rfl g2
      | ret d M' =>
        intro hs v σ' ι' W' env' H' r' hv
        obtain ⟨r2, g2, x2⟩ := r'.leave
        exact hs v ι' H' r2 (hv.ext x2) g2
      | exc k a env' M' =>
        intro hs dd σ' ι' W' H' r' x' e'
        obtain ⟨r2, g2, x2⟩ := r'.leave
        obtain ⟨av, a1, a2, a3⟩ := x'
        exact hs dd ι' H' r2 ⟨av, a1, x2.out a1 a2, a3.ext x2⟩ g2
      | cont _ _ => exact fun h => h.elim
      | bad => exact fun h => h.elim
end
end Mini

/-! A checker: whether a text says an expression, a statement, of the small language. -/
namespace Mini
open PySem PySem.Spec PyProof.Rows L2
def lk (sc : Scope) (x : Str) : Option NameKind := sc.names.lookup x
def visB (sc : Scope) (x : Str) : Bool := match sc.names.lookup x with
  | some .local => true
  | some .cell => true
  | some .free => true
  | _ => false
def locB (sc : Scope) (x : Str) : Bool := match sc.names.lookup x with
  | some .local => true
  | some .cell => true
  | _ => false
def glbB (sc : Scope) (x : Str) : Bool := match sc.names.lookup x with
  | some .globalImplicit => true
  | _ => false
def isLoc (sc : Scope) (x : Str) : Bool := match sc.names.lookup x with
  | some .local => true
  | _ => false
theorem visB_ok {sc : Scope} {x : Str} (h : visB sc x = true) : Vis sc x := by
  unfold visB at h
  split at h
  · rename_i e; exact .inl e
  · rename_i e; exact .inr (.inl e)
  · rename_i e; exact .inr (.inr e)
  · cases h
theorem locB_ok {sc : Scope} {x : Str} (h : locB sc x = true) : Loc sc x := by
  unfold locB at h
  split at h
  · rename_i e; exact .inl e
  · rename_i e; exact .inr e
  · cases h
theorem glbB_ok {sc : Scope} {x : Str} (h : glbB sc x = true) : glb sc x := by
  unfold glbB at h
  split at h
  · rename_i e; exact e
  · cases h
theorem isLoc_ok {sc : Scope} {x : Str} (h : isLoc sc x = true) : sc.names.lookup x = some .local := by
  unfold isLoc at h
  split at h
  · rename_i e; exact e
  · cases h
def nmB (N : List Str) (i : Nat) (x : Str) : Bool := match N[i]? with
  | some y => y == x
  | none => false
theorem nmB_ok {N : List Str} {i : Nat} {x : Str} (h : nmB N i x = true) : N[i]? = some x := by
  unfold nmB at h
  split at h
  · rename_i e; rw [e, eq_of_beq h]
  · cases h
mutual
def dB : D → D → Bool
  | .non, .non => true
  | .bl a, .bl b => a == b
  | .int a, .int b => a == b
  | .str a, .str b => a == b
  | .tup a, .tup b => dsB a b
  | .frz a, .frz b => dsB a b
  | _, _ => false
def dsB : List D → List D → Bool
  | [], [] => true
  | a :: as, b :: bs => dB a b && dsB as bs
  | _, _ => false
end
mutual
theorem dB_ok : ∀ {a b : D}, dB a b = true → a = b
  | .non, b, h => by cases b <;> first | rfl | cases h
  | .bl a, b, h => by
    cases b <;> first | (cases h; done) | skip
    rw [eq_of_beq (show (a == _) = true from h)]
  | .int a, b, h => by
    cases b <;> first | (cases h; done) | skip
    rw [eq_of_beq (show (a == _) = true from h)]
  | .str a, b, h => by
    cases b <;> first | (cases h; done) | skip
    rw [eq_of_beq (show (a == _) = true from h)]
  | .tup a, b, h => by
    cases b <;> first | (cases h; done) | skip
    rw [dsB_ok (show dsB a _ = true from h)]
  | .frz a, b, h => by
    cases b <;> first | (cases h; done) | skip
    rw [dsB_ok (show dsB a _ = true from h)]
  | .lst a, b, h => by cases b <;> cases h
  | .dct a, b, h => by cases b <;> cases h
  | .ref a, b, h => by cases b <;> cases h
  | .fn a, b, h => by cases b <;> cases h
theorem dsB_ok : ∀ {a b : List D}, dsB a b = true → a = b
  | [], b, h => by cases b <;> first | rfl | cases h
  | a :: as, b, h => by
    cases b <;> first | (cases h; done) | skip
    have := (Bool.and_eq_true _ _).mp (show (dB a _ && dsB as _) = true from h)
    rw [dB_ok this.1, dsB_ok this.2]
end
def litB : Const → D → Bool
  | .none, .non => true
  | .bool b, .bl b' => b == b'
  | .int i, .int j => i == j
  | .str s, .str l => s.cps.toList == l
  | _, _ => false
def opB : Operator → Op → Bool
  | .Add, .add => true
  | .Sub, .sub => true
  | .Mult, .mul => true
  | .FloorDiv, .fdiv => true
  | .Mod, .mod => true
  | .Pow, .pow => true
  | _, _ => false
theorem opB_ok {a : Operator} {b : Op} (h : opB a b = true) : OpN a b := by
  cases a <;> cases b <;> first | (cases h; done) | constructor
def cmB : CmpOp → Op → Bool
  | .Eq, .eq => true
  | .NotEq, .ne => true
  | .Lt, .lt => true
  | .LtE, .le => true
  | .Gt, .gt => true
  | .GtE, .ge => true
  | .Is, .isN => true
  | .IsNot, .notN => true
  | .In, .mem => true
  | .NotIn, .nmem => true
  | _, _ => false
theorem cmB_ok {a : CmpOp} {b : Op} (h : cmB a b = true) : CmN a b := by
  cases a <;> cases b <;> first | (cases h; done) | constructor
def biS : Bi → Option Str
  | .len => some "len"
  | .str => some "str"
  | .int => some "int"
  | .tuple => some "tuple"
  | .list => some "list"
  | .all => some "all"
  | .any => some "any"
  | .max2 => some "max"
  | .min2 => some "min"
  | .abs => some "abs"
  | _ => none
theorem biS_ok {b : Bi} {x : Str} (h : biS b = some x) : BiN x b := by
  cases b <;> first | (cases h; done) | (cases h; constructor)
def mtS : Bi → Option Str
  | .join => some "join"
  | .find => some "find"
  | _ => none
theorem mtS_ok {b : Bi} {x : Str} (h : mtS b = some x) : MtN x b := by
  cases b <;> first | (cases h; done) | (cases h; constructor)
def tyS : Ty → Str
  | .str => "str"
  | .int => "int"
  | .bool => "bool"
  | .tuple => "tuple"
  | .list => "list"
  | .dict => "dict"
theorem tyS_ok {t : Ty} {x : Str} (h : tyS t = x) : TyN x t := by
  cases t <;> (cases h; constructor)
def namesOf : List Expr → Option (List (Str × Pos))
  | [] => some []
  | .Name x p :: r => (namesOf r).map ((x, p) :: ·)
  | _ => none
theorem namesOf_ok : ∀ {es : List Expr} {xs : List (Str × Pos)}, namesOf es = some xs → es = xs.map fun x => .Name x.1 x.2
  | [], _, h => by cases h; rfl
  | .Name x p :: r, _, h => by
    obtain ⟨t, e, rfl⟩ := Option.map_eq_some_iff.mp (show (namesOf r).map ((x, p) :: ·) = _ from h)
    rw [namesOf_ok e]; rfl
def ctB (N : List Str) (sc : Scope) (tg : Expr) (t : Tg) : Bool := match tg with
  | .Name x _ => (match t with
    | .nm i => nmB N i x && locB sc x
    | _ => false)
  | .Tuple es _ _ => (match t with
    | .tp is => (match namesOf es with
      | some xs => is.length == xs.length && (is.zip xs).all fun p => nmB N p.1 p.2.1 && locB sc p.2.1
      | none => false)
    | _ => false)
  | _ => false
theorem ctB_ok {N : List Str} {sc : Scope} {tg : Expr} {t : Tg} (h : ctB N sc tg t = true) : CT N sc tg t := by
  unfold ctB at h
  split at h
  · split at h
    · have := (Bool.and_eq_true _ _).mp h
      exact .nm (nmB_ok this.1) (locB_ok this.2)
    · cases h
  · split at h
    · split at h
      · rename_i xs e
        have := (Bool.and_eq_true _ _).mp h
        rw [namesOf_ok e]
        refine .tp (eq_of_beq this.1) fun j i x h1 h2 => ?_
        have hm : (i, x) ∈ List.zip _ xs := List.mem_of_getElem? (i := j) (by rw [List.getElem?_zip_eq_some]; exact ⟨h1, h2⟩)
        have := (Bool.and_eq_true _ _).mp (List.all_eq_true.mp this.2 _ hm)
        exact ⟨nmB_ok this.1, locB_ok this.2⟩
      · cases h
    · cases h
  · cases h
def ownOf (N : List Str) (t : Tg) : List (Str × Nat) := t.slots.map fun i => (N.getD i "", i)
theorem ownOf_snd {N : List Str} {t : Tg} : (ownOf N t).map (·.2) = t.slots := by
  unfold ownOf
  rw [List.map_map]
  exact (List.map_congr_left fun a _ => rfl).trans (List.map_id _)
def isFn (k : ScopeKind) : Bool := match k with
  | .function => true
  | _ => false
def blkB (N : List Str) (sc scope : Scope) (own : List (Str × Nat)) : Bool :=
  isFn scope.kind && scope.names.all (fun y => decide (scope.names.lookup y.1 = some y.2)) && own.all (fun p => nmB N p.2 p.1) &&
  scope.names.all (fun y => match y.2 with
    | .free => (match sc.names.lookup y.1 with
      | some .cell => true
      | some .free => true
      | _ => false)
    | .local => own.any (fun p => p.1 == y.1) || !N.contains y.1
    | .cell => own.any (fun p => p.1 == y.1) || !N.contains y.1
    | _ => true)
theorem blkB_ok {N : List Str} {sc scope : Scope} {own : List (Str × Nat)} (h : blkB N sc scope own = true) : BlkOk N sc scope own := by
  unfold blkB at h
  simp only [Bool.and_eq_true] at h
  obtain ⟨⟨⟨h1, h2⟩, h3⟩, h4⟩ := h
  have hown : ∀ y : Str, (own.any (fun p => p.1 == y) || !N.contains y) = true → y ∈ own.map (·.1) ∨ y ∉ N := fun y h => by
    rcases (Bool.or_eq_true _ _).mp h with z | z
    · obtain ⟨p, hp, e⟩ := List.any_eq_true.mp z
      exact .inl (List.mem_map.mpr ⟨p, hp, eq_of_beq e⟩)
    · refine .inr fun m => ?_
      rw [List.contains_iff_mem.mpr m] at z
      cases z
  refine ⟨?_, fun y m => ?_, fun p m => nmB_ok (List.all_eq_true.mp h3 p m), fun y m e => ?_, fun y m e => ?_⟩
  · revert h1
    cases scope.kind <;> first | (intro _; rfl) | (intro h; cases h)
  · exact of_decide_eq_true (List.all_eq_true.mp h2 y m)
  · have := List.all_eq_true.mp h4 y m
    rw [e] at this
    revert this
    cases sc.names.lookup y.1 with
    | none => exact fun h => by cases h
    | some k => cases k <;> first | (intro _; exact .inl rfl) | (intro _; exact .inr rfl) | (intro h; cases h)
  · have := List.all_eq_true.mp h4 y m
    rcases e with e | e
    · rw [e] at this; exact hown _ this
    · rw [e] at this; exact hown _ this
abbrev Rc := Bool → Scope → Sy → Tm → Bool
def ckCall (T : Tb) (N : List Str) (r : Rc) (c : Bool) (sc : Scope) (y : Str) (es : List Expr) (m : E) : Bool := match m with
  | .bi b ms => c && decide (biS b = some y) && T.fre.contains y && glbB sc y && r c sc (.bs es) (.es ms)
  | .isi ma t => y == "isinstance" && T.fre.contains "isinstance" && glbB sc "isinstance" && (match es with
    | [a, .Name x _] => decide (tyS t = x) && T.fre.contains x && glbB sc x && r c sc (.b a) (.e ma)
    | _ => false)
  | .isx i o => !c && y == "isinstance" && T.fre.contains "isinstance" && glbB sc "isinstance" && (match es with
    | [.Name x _, .Name z _] => nmB N i x && visB sc x && plainN x && (match o with
      | some k => decide (T.cls.lookup z = some k) && glbB sc z && plainN z
      | none => z == "ValueError" && T.fre.contains "ValueError" && glbB sc "ValueError")
    | _ => false)
  | .call f ms ds => c && decide (T.fns.lookup y = some f) && glbB sc y && plainN y && dsB ds ((T.dfl f).drop ((T.dfl f).length - ds.length)) && decide (ds.length ≤ (T.dfl f).length) && decide (ms.length + ds.length = T.np f) && r c sc (.es es) (.es ms)
  | _ => false
def ckE (T : Tb) (N : List Str) (r : Rc) (c : Bool) (sc : Scope) (x : Expr) (m : E) : Bool := match x with
  | .Constant k _ _ => (match m with
    | .lit d => litB k d
    | _ => false)
  | .Name y _ => (match m with
    | .var i => nmB N i y && visB sc y && plainN y
    | .glob d => (match T.con.lookup y with
      | some d' => dB d' d && glbB sc y && plainN y
      | none => false)
    | _ => false)
  | .Tuple es _ _ => (match m with
    | .tup ms => decide (ms.length ≤ 1000) && r c sc (.es es) (.es ms)
    | _ => false)
  | .List es _ => (match m with
    | .lst ms => decide (ms.length ≤ 1000) && r c sc (.es es) (.es ms)
    | _ => false)
  | .BinOp a o b _ => (match m with
    | .op o' ma mb => opB o o' && r c sc (.b a) (.e ma) && r c sc (.b b) (.e mb)
    | _ => false)
  | .Compare a ops bs _ => (match ops with
    | [o] => (match bs with
      | [b] => (match m with
        | .op o' ma mb => cmB o o' && !behindInMarks o b && r c sc (.b a) (.e ma) && r c sc (.b b) (.e mb)
        | _ => false)
      | _ => false)
    | [o, o'] => (match bs with
      | [b, d] => (match m with
        | .chain u u' ma mb md => cmB o u && cmB o' u' && decide (u ≠ .mem) && decide (u ≠ .nmem) && decide (u' ≠ .mem) && decide (u' ≠ .nmem) && r c sc (.b a) (.e ma) && r c sc (.b b) (.e mb) && r c sc (.b d) (.e md)
        | _ => false)
      | _ => false)
    | _ => false)
  | .UnaryOp o a _ => (match o with
    | .USub => (match m with
      | .neg ma => r c sc (.e a) (.e ma)
      | _ => false)
    | .Not => (match m with
      | .not ma => r c sc (.e a) (.e ma)
      | _ => false)
    | _ => false)
  | .BoolOp o es p => (match o with
    | .And => (match es with
      | [a] => r c sc (.e a) (.e m)
      | a :: b :: q => (match m with
        | .and ma mb => r c sc (.e a) (.e ma) && r c sc (.e (.BoolOp .And (b :: q) p)) (.e mb)
        | _ => false)
      | _ => false)
    | .Or => (match es with
      | [a] => r c sc (.e a) (.e m)
      | a :: b :: q => (match m with
        | .or ma mb => r c sc (.e a) (.e ma) && r c sc (.e (.BoolOp .Or (b :: q) p)) (.e mb)
        | _ => false)
      | _ => false))
  | .IfExp t a b _ => (match m with
    | .ife mt ma mb => r c sc (.e t) (.e mt) && r c sc (.e a) (.e ma) && r c sc (.e b) (.e mb)
    | _ => false)
  | .Subscript a i _ => (match m with
    | .sub ma mi => simpleIx i && r c sc (.b a) (.e ma) && r c sc (.e i) (.e mi)
    | .slc ma ml mh => (match i with
      | .Slice lo hi none _ => r c sc (.b a) (.e ma) && r c sc (.o lo) (.o ml) && r c sc (.o hi) (.o mh)
      | _ => false)
    | _ => false)
  | .Attribute o y _ => (match o with
    | .Name z _ => (match m with
      | .actx i => !c && y == "act" && nmB N i z && visB sc z && plainN z
      | _ => false)
    | _ => false)
  | .Call f es kws p => kws.isEmpty && !es.isEmpty && (match f with
    | .Name y _ => ckCall T N r c sc y es m
    | .Attribute o y q => (match m with
      | .mt b mo ms => decide (mtS b = some y) && (q.endLine == p.line) && decide (es.length ≤ 10) && r c sc (.b o) (.e mo) && r c sc (.bs es) (.es ms)
      | _ => false)
    | _ => false)
  | .ListComp elt gens scope _ => (match gens with
    | [⟨tg, iter, ifs, 0⟩] => (match m with
      | .lc me t mi mc => c && ctB N scope tg t && blkB N sc scope (ownOf N t) && r true sc (.it tg iter) (.it mi) && r true (relS scope sc) (.e elt) (.e me) && (match ifs with
        | [] => (match mc with
          | none => true
          | some _ => false)
        | [f] => (match mc with
          | some mf => r true (relS scope sc) (.e f) (.e mf)
          | none => false)
        | _ => false)
      | _ => false)
    | _ => false)
  | _ => false
end Mini

/-! The checker is right. -/
namespace Mini
open PySem PySem.Spec PyProof.Rows L2
section
variable {T : Tb} {N : List Str} {r : Rc} {c : Bool} {sc : Scope}
def ROk (T : Tb) (N : List Str) (r : Rc) : Prop := ∀ (c : Bool) (sc : Scope) (sy : Sy) (tm : Tm), r c sc sy tm = true → CE T N c sc sy tm
theorem mem_of_contains {l : List Str} {x : Str} (h : l.contains x = true) : x ∈ l := List.contains_iff_mem.mp h
theorem litB_ok {k : Const} {d : D} {j : Nat} {p : Pos} (h : litB k d = true) : CE T N c sc (.e (.Constant k j p)) (.e (.lit d)) := by
  cases k <;> cases d <;> first | (cases h; done) | skip
  · exact .non
  · rw [eq_of_beq (show (_ == _) = true from h)]; exact .bl
  · rw [eq_of_beq (show (_ == _) = true from h)]; exact .int
  · rename_i s l
    have e := eq_of_beq (show (s.cps.toList == l) = true from h)
    refine .str ?_
    rw [← e]; rfl
theorem ckCall_ok (hr : ROk T N r) {y : Str} {e : Expr} {es : List Expr} {m : E} {p q : Pos} (h : ckCall T N r c sc y (e :: es) m = true) : CE T N c sc (.e (.Call (.Name y q) (e :: es) [] p)) (.e m) := by
  unfold ckCall at h
  split at h
  · simp only [Bool.and_eq_true, decide_eq_true_eq] at h
    obtain ⟨⟨⟨⟨h1, h2⟩, h3⟩, h4⟩, h5⟩ := h
    exact .bi h1 (biS_ok h2) (mem_of_contains h3) (glbB_ok h4) (hr _ _ _ _ h5)
  · simp only [Bool.and_eq_true, decide_eq_true_eq] at h
    obtain ⟨⟨⟨h1, h2⟩, h3⟩, h4⟩ := h
    split at h4
    · rename_i he
      cases he
      simp only [Bool.and_eq_true, decide_eq_true_eq] at h4
      obtain ⟨⟨⟨h5, h6⟩, h7⟩, h8⟩ := h4
      rw [eq_of_beq h1]
      exact .isi (tyS_ok h5) (mem_of_contains h6) (glbB_ok h7) (mem_of_contains h2) (glbB_ok h3) (hr _ _ _ _ h8)
    · cases h4
  · simp only [Bool.and_eq_true, Bool.not_eq_true'] at h
    obtain ⟨⟨⟨⟨h0, h1⟩, h2⟩, h3⟩, h4⟩ := h
    split at h4
    · rename_i he
      cases he
      simp only [Bool.and_eq_true] at h4
      obtain ⟨⟨⟨h5, h6⟩, h7⟩, h8⟩ := h4
      rw [eq_of_beq h1, h0]
      split at h8
      · simp only [Bool.and_eq_true, decide_eq_true_eq] at h8
        obtain ⟨⟨h9, h10⟩, h11⟩ := h8
        exact .isx (nmB_ok h5) (visB_ok h6) h7 (mem_of_contains h2) (glbB_ok h3) h9 (glbB_ok h10) h11
      · simp only [Bool.and_eq_true] at h8
        obtain ⟨⟨h9, h10⟩, h11⟩ := h8
        rw [eq_of_beq h9]
        exact .isv (nmB_ok h5) (visB_ok h6) h7 (mem_of_contains h2) (glbB_ok h3) (mem_of_contains h10) (glbB_ok h11)
    · cases h4
  · simp only [Bool.and_eq_true, decide_eq_true_eq] at h
    obtain ⟨⟨⟨⟨⟨⟨⟨h1, h2⟩, h3⟩, h4⟩, h5⟩, h6⟩, h7⟩, h8⟩ := h
    exact .call h1 h2 (glbB_ok h3) h4 (dsB_ok h5) h6 h7 (hr _ _ _ _ h8)
  · cases h
theorem ckE_ok (hr : ROk T N r) {x : Expr} {m : E} (h : ckE T N r c sc x m = true) : CE T N c sc (.e x) (.e m) := by
  unfold ckE at h
  split at h
  · split at h
    · exact litB_ok h
    · cases h
  · split at h
    · simp only [Bool.and_eq_true] at h
      exact .var (nmB_ok h.1.1) (visB_ok h.1.2) h.2
    · split at h
      · rename_i e
        simp only [Bool.and_eq_true] at h
        exact .glob (by rw [e, dB_ok h.1.1]) (glbB_ok h.1.2) h.2
      · cases h
    · cases h
  · split at h
    · simp only [Bool.and_eq_true, decide_eq_true_eq] at h
      exact .tup h.1 (hr _ _ _ _ h.2)
    · cases h
  · split at h
    · simp only [Bool.and_eq_true, decide_eq_true_eq] at h
      exact .lst h.1 (hr _ _ _ _ h.2)
    · cases h
  · split at h
    · simp only [Bool.and_eq_true] at h
      exact .op (opB_ok h.1.1) (hr _ _ _ _ h.1.2) (hr _ _ _ _ h.2)
    · cases h
  · split at h
    · split at h
      · split at h
        · simp only [Bool.and_eq_true, Bool.not_eq_true'] at h
          exact .cmp (cmB_ok h.1.1.1) h.1.1.2 (hr _ _ _ _ h.1.2) (hr _ _ _ _ h.2)
        · cases h
      · cases h
    · split at h
      · split at h
        · simp only [Bool.and_eq_true, decide_eq_true_eq] at h
          obtain ⟨⟨⟨⟨⟨⟨⟨⟨h1, h2⟩, h3⟩, h4⟩, h5⟩, h6⟩, h7⟩, h8⟩, h9⟩ := h
          exact .chain (cmB_ok h1) (cmB_ok h2) h3 h4 h5 h6 (hr _ _ _ _ h7) (hr _ _ _ _ h8) (hr _ _ _ _ h9)
        · cases h
      · cases h
    · cases h
  · split at h
    · split at h
      · exact .neg (hr _ _ _ _ h)
      · cases h
    · split at h
      · exact .not (hr _ _ _ _ h)
      · cases h
    · cases h
  · split at h
    · split at h
      · exact .and1 (hr _ _ _ _ h)
      · split at h
        · simp only [Bool.and_eq_true] at h
          exact .and (hr _ _ _ _ h.1) (hr _ _ _ _ h.2)
        · cases h
      · cases h
    · split at h
      · exact .or1 (hr _ _ _ _ h)
      · split at h
        · simp only [Bool.and_eq_true] at h
          exact .or (hr _ _ _ _ h.1) (hr _ _ _ _ h.2)
        · cases h
      · cases h
  · split at h
    · simp only [Bool.and_eq_true] at h
      exact .ife (hr _ _ _ _ h.1.1) (hr _ _ _ _ h.1.2) (hr _ _ _ _ h.2)
    · cases h
  · split at h
    · simp only [Bool.and_eq_true] at h
      exact .sub h.1.1 (hr _ _ _ _ h.1.2) (hr _ _ _ _ h.2)
    · split at h
      · simp only [Bool.and_eq_true] at h
        exact .slc (hr _ _ _ _ h.1.1) (hr _ _ _ _ h.1.2) (hr _ _ _ _ h.2)
      · cases h
    · cases h
  · split at h
    · split at h
      · simp only [Bool.and_eq_true, Bool.not_eq_true'] at h
        obtain ⟨⟨⟨⟨h0, h1⟩, h2⟩, h3⟩, h4⟩ := h
        rw [eq_of_beq h1, h0]
        exact .actx (nmB_ok h2) (visB_ok h3) h4
      · cases h
    · cases h
  · rename_i f es kws p
    simp only [Bool.and_eq_true] at h
    obtain ⟨⟨h1, h2⟩, h3⟩ := h
    have ek : kws = [] := List.isEmpty_iff.mp h1
    subst ek
    obtain ⟨e, es', rfl⟩ : ∃ e es', es = e :: es' := by
      cases es with
      | nil => cases h2
      | cons e es' => exact ⟨e, es', rfl⟩
    split at h3
    · exact ckCall_ok hr h3
    · split at h3
      · simp only [Bool.and_eq_true, decide_eq_true_eq] at h3
        obtain ⟨⟨⟨⟨h4, h5⟩, h6⟩, h7⟩, h8⟩ := h3
        exact .mt (mtS_ok h4) h5 (by rw [List.length_cons] at h6; omega) (hr _ _ _ _ h7) (hr _ _ _ _ h8)
      · cases h3
    · cases h3
  · split at h
    · split at h
      · simp only [Bool.and_eq_true] at h
        obtain ⟨⟨⟨⟨⟨h0, h1⟩, h2⟩, h3⟩, h4⟩, h5⟩ := h
        rw [h0]
        split at h5
        · split at h5
          · exact .lc (ctB_ok h1) ownOf_snd (blkB_ok h2) (hr _ _ _ _ h3) (hr _ _ _ _ h4)
          · cases h5
        · split at h5
          · exact .lcIf (ctB_ok h1) ownOf_snd (blkB_ok h2) (hr _ _ _ _ h3) (hr _ _ _ _ h4) (hr _ _ _ _ h5)
          · cases h5
        · cases h5
      · cases h
    · cases h
  · cases h
def ckI (T : Tb) (N : List Str) (r : Rc) (c : Bool) (sc : Scope) (tg x : Expr) (m : It) : Bool := c && (match m with
  | .of m => r true sc (.e x) (.e m)
  | .range1 m => (match x with
    | .Call (.Name y _) [e] [] _ => y == "range" && T.fre.contains "range" && glbB sc "range" && r true sc (.e e) (.e m)
    | _ => false)
  | .enum m => (match tg with
    | .Tuple _ _ _ => (match x with
      | .Call (.Name y _) [e] [] _ => y == "enumerate" && T.fre.contains "enumerate" && glbB sc "enumerate" && r true sc (.e e) (.e m)
      | _ => false)
    | _ => false)
  | _ => false)
theorem ckI_ok (hr : ROk T N r) {tg x : Expr} {m : It} (h : ckI T N r c sc tg x m = true) : CE T N c sc (.it tg x) (.it m) := by
  unfold ckI at h
  obtain ⟨h0, h⟩ := (Bool.and_eq_true _ _).mp h
  rw [h0]
  split at h
  · exact .iof (hr _ _ _ _ h)
  · split at h
    · simp only [Bool.and_eq_true] at h
      obtain ⟨⟨⟨h1, h2⟩, h3⟩, h4⟩ := h
      rw [eq_of_beq h1]
      exact .irange (mem_of_contains h2) (glbB_ok h3) (hr _ _ _ _ h4)
    · cases h
  · split at h
    · split at h
      · simp only [Bool.and_eq_true] at h
        obtain ⟨⟨⟨h1, h2⟩, h3⟩, h4⟩ := h
        rw [eq_of_beq h1]
        exact .ienum (mem_of_contains h2) (glbB_ok h3) (hr _ _ _ _ h4)
      · cases h
    · cases h
  · cases h
def ckSy (T : Tb) (N : List Str) (r : Rc) (c : Bool) (sc : Scope) (sy : Sy) (tm : Tm) : Bool := match sy with
  | .e x => (match tm with
    | .e m => ckE T N r c sc x m
    | _ => false)
  | .b x => (match tm with
    | .e m => (match m with
      | .bvar i => (match x with
        | .Name y _ => nmB N i y && visB sc y && plainN y
        | _ => false)
      | m => ckE T N r c sc x m)
    | _ => false)
  | .es xs => (match tm with
    | .es ms => (match xs with
      | [] => (match ms with
        | [] => true
        | _ => false)
      | e :: es => (match ms with
        | m :: ms => r c sc (.e e) (.e m) && r c sc (.es es) (.es ms)
        | _ => false))
    | _ => false)
  | .bs xs => (match tm with
    | .es ms => (match xs with
      | [] => (match ms with
        | [] => true
        | _ => false)
      | e :: es => (match ms with
        | m :: ms => r c sc (.b e) (.e m) && r c sc (.bs es) (.es ms)
        | _ => false))
    | _ => false)
  | .o x => (match tm with
    | .o m => (match x with
      | none => (match m with
        | none => true
        | _ => false)
      | some e => (match m with
        | some m => r c sc (.e e) (.e m)
        | none => false))
    | _ => false)
  | .it tg x => (match tm with
    | .it m => ckI T N r c sc tg x m
    | _ => false)
theorem ckSy_ok (hr : ROk T N r) {sy : Sy} {tm : Tm} (h : ckSy T N r c sc sy tm = true) : CE T N c sc sy tm := by
  unfold ckSy at h
  split at h
  · split at h
    · exact ckE_ok hr h
    · cases h
  · split at h
    · split at h
      · split at h
        · simp only [Bool.and_eq_true] at h
          exact .bvar (nmB_ok h.1.1) (visB_ok h.1.2) h.2
        · cases h
      · exact .of (ckE_ok hr h)
    · cases h
  · split at h
    · split at h
      · split at h
        · exact .nil
        · cases h
      · split at h
        · have := (Bool.and_eq_true _ _).mp h
          exact .cons (hr _ _ _ _ this.1) (hr _ _ _ _ this.2)
        · cases h
    · cases h
  · split at h
    · split at h
      · split at h
        · exact .bnil
        · cases h
      · split at h
        · have := (Bool.and_eq_true _ _).mp h
          exact .bcons (hr _ _ _ _ this.1) (hr _ _ _ _ this.2)
        · cases h
    · cases h
  · split at h
    · split at h
      · split at h
        · exact .onone
        · cases h
      · split at h
        · exact .osome (hr _ _ _ _ h)
        · cases h
    · cases h
  · split at h
    · exact ckI_ok hr h
    · cases h
def ck (T : Tb) (N : List Str) : Nat → Rc
  | 0 => fun _ _ _ _ => false
  | n + 1 => ckSy T N (ck T N n)
theorem ck_ok : ∀ n : Nat, ROk T N (ck T N n)
  | 0 => fun _ _ _ _ h => by cases h
  | n + 1 => fun _ _ _ _ h => ckSy_ok (ck_ok n) h
/-! ### statements -/
abbrev Rs := Bool → Ss → Sm → Bool
def ckAsg (T : Tb) (N : List Str) (r : Rc) (sc : Scope) (c : Bool) (tg e : Expr) (m : S) : Bool := match tg with
  | .Name x _ => (match m with
    | .set i m => nmB N i x && locB sc x && r c sc (.e e) (.e m)
    | .own i (.lst ms) => (match e with
      | .List es _ => c && nmB N i x && locB sc x && decide (ms.length ≤ 1000) && r true sc (.es es) (.es ms)
      | _ => false)
    | .new i (.lst ms) => (match e with
      | .List es _ => c && nmB N i x && locB sc x && decide (ms.length ≤ 1000) && r true sc (.es es) (.es ms)
      | _ => false)
    | _ => false)
  | .Tuple es k p => (match m with
    | .unp is m => c && ctB N sc (.Tuple es k p) (.tp is) && r true sc (.e e) (.e m) && notTup e
    | _ => false)
  | .Subscript o i _ => (match m with
    | .sti mo mi me => c && r true sc (.e e) (.e me) && r true sc (.e o) (.e mo) && r true sc (.e i) (.e mi) && !isComp e
    | _ => false)
  | _ => false
theorem ckAsg_ok (hr : ROk T N r) {tg e : Expr} {m : S} {p : Pos} (h : ckAsg T N r sc c tg e m = true) : CS T N sc c (.s (.Assign [tg] e p)) (.s m) := by
  unfold ckAsg at h
  split at h
  · split at h
    · simp only [Bool.and_eq_true] at h
      exact .set (nmB_ok h.1.1) (locB_ok h.1.2) (hr _ _ _ _ h.2)
    · split at h
      · simp only [Bool.and_eq_true, decide_eq_true_eq] at h
        obtain ⟨⟨⟨⟨h0, h1⟩, h2⟩, h3⟩, h4⟩ := h
        rw [h0]
        exact .own (nmB_ok h1) (locB_ok h2) h3 (hr _ _ _ _ h4)
      · cases h
    · split at h
      · simp only [Bool.and_eq_true, decide_eq_true_eq] at h
        obtain ⟨⟨⟨⟨h0, h1⟩, h2⟩, h3⟩, h4⟩ := h
        rw [h0]
        exact .new (nmB_ok h1) (locB_ok h2) h3 (hr _ _ _ _ h4)
      · cases h
    · cases h
  · split at h
    · simp only [Bool.and_eq_true] at h
      obtain ⟨⟨⟨h0, h1⟩, h2⟩, h3⟩ := h
      rw [h0]
      exact .unp (ctB_ok h1) (hr _ _ _ _ h2) h3
    · cases h
  · split at h
    · simp only [Bool.and_eq_true, Bool.not_eq_true'] at h
      obtain ⟨⟨⟨⟨h0, h1⟩, h2⟩, h3⟩, h4⟩ := h
      rw [h0]
      exact .sti (hr _ _ _ _ h1) (hr _ _ _ _ h2) (hr _ _ _ _ h3) h4
    · cases h
  · cases h
def ckS (T : Tb) (N : List Str) (r : Rc) (rs : Rs) (sc : Scope) (c : Bool) (x : Stmt) (m : S) : Bool := match x with
  | .Assign [tg] e _ => ckAsg T N r sc c tg e m
  | .Expr e s => c && (match m with
    | .app i m => (match e with
      | .Call (.Attribute (.Name x _) y q) [e] [] p => y == "append" && nmB N i x && visB sc x && plainN x && (q.endLine == p.line) && r true sc (.e e) (.e m)
      | _ => false)
    | .exp m => r true sc (.e e) (.e m) && !isComp e
    | _ => false)
  | .Return (some e) _ => c && (match m with
    | .ret m => r true sc (.e e) (.e m)
    | _ => false)
  | .Raise (some (.Call (.Name x _) [e] [] _)) none _ => c && (match m with
    | .raise k m => decide (T.cls.lookup x = some k) && glbB sc x && plainN x && r true sc (.e e) (.e m)
    | _ => false)
  | .If e a b _ => c && (match m with
    | .ife m ma mb => r true sc (.e e) (.e m) && rs true (.ss a) (.ss ma) && rs true (.ss b) (.ss mb)
    | _ => false)
  | .For tg it b [] _ => c && (match m with
    | .for t i mb => ctB N sc tg t && r true sc (.it tg it) (.it i) && rs true (.ss b) (.ss mb)
    | _ => false)
  | .Try b [.ExceptHandler (some (.Name x _)) (some n) (h0 :: hs) _] [] [] _ => c && (match m with
    | .try1 mb k i mh => decide (T.cls.lookup x = some k) && glbB sc x && plainN x && nmB N i n && isLoc sc n && rs true (.ss b) (.ss mb) && rs false (.ss (h0 :: hs)) (.ss mh)
    | _ => false)
  | .Pass _ => (match m with
    | .pass => true
    | _ => false)
  | .Continue _ => c && (match m with
    | .cont => true
    | _ => false)
  | _ => false
def RsOk (T : Tb) (N : List Str) (sc : Scope) (rs : Rs) : Prop := ∀ (c : Bool) (sy : Ss) (tm : Sm), rs c sy tm = true → CS T N sc c sy tm
theorem ckS_ok {rs : Rs} (hr : ROk T N r) (hs : RsOk T N sc rs) {x : Stmt} {m : S} (h : ckS T N r rs sc c x m = true) : CS T N sc c (.s x) (.s m) := by
  unfold ckS at h
  split at h
  · exact ckAsg_ok hr h
  · obtain ⟨h0, h⟩ := (Bool.and_eq_true _ _).mp h
    rw [h0]
    split at h
    · split at h
      · simp only [Bool.and_eq_true] at h
        obtain ⟨⟨⟨⟨⟨h1, h2⟩, h3⟩, h4⟩, h5⟩, h6⟩ := h
        rw [eq_of_beq h1]
        exact .app (nmB_ok h2) (visB_ok h3) h4 h5 (hr _ _ _ _ h6)
      · cases h
    · simp only [Bool.and_eq_true, Bool.not_eq_true'] at h
      exact .exp (hr _ _ _ _ h.1) h.2
    · cases h
  · obtain ⟨h0, h⟩ := (Bool.and_eq_true _ _).mp h
    rw [h0]
    split at h
    · exact .ret (hr _ _ _ _ h)
    · cases h
  · obtain ⟨h0, h⟩ := (Bool.and_eq_true _ _).mp h
    rw [h0]
    split at h
    · simp only [Bool.and_eq_true, decide_eq_true_eq] at h
      exact .raise h.1.1.1 (glbB_ok h.1.1.2) h.1.2 (hr _ _ _ _ h.2)
    · cases h
  · obtain ⟨h0, h⟩ := (Bool.and_eq_true _ _).mp h
    rw [h0]
    split at h
    · simp only [Bool.and_eq_true] at h
      exact .ife (hr _ _ _ _ h.1.1) (hs _ _ _ h.1.2) (hs _ _ _ h.2)
    · cases h
  · obtain ⟨h0, h⟩ := (Bool.and_eq_true _ _).mp h
    rw [h0]
    split at h
    · simp only [Bool.and_eq_true] at h
      exact .for (ctB_ok h.1.1) (hr _ _ _ _ h.1.2) (hs _ _ _ h.2)
    · cases h
  · obtain ⟨h0, h⟩ := (Bool.and_eq_true _ _).mp h
    rw [h0]
    split at h
    · simp only [Bool.and_eq_true, decide_eq_true_eq] at h
      obtain ⟨⟨⟨⟨⟨⟨h1, h2⟩, h3⟩, h4⟩, h5⟩, h6⟩, h7⟩ := h
      exact .try1 h1 (glbB_ok h2) h3 (nmB_ok h4) (isLoc_ok h5) (hs _ _ _ h6) (hs _ _ _ h7)
    · cases h
  · split at h
    · exact .pass
    · cases h
  · obtain ⟨h0, h⟩ := (Bool.and_eq_true _ _).mp h
    rw [h0]
    split at h
    · exact .cont
    · cases h
  · cases h
def cks (T : Tb) (N : List Str) (r : Rc) (sc : Scope) : Nat → Rs
  | 0 => fun _ _ _ => false
  | n + 1 => fun c sy tm => match sy with
    | .s x => (match tm with
      | .s m => ckS T N r (cks T N r sc n) sc c x m
      | _ => false)
    | .ss xs => (match tm with
      | .ss ms => (match ms with
        | [] => xs.isEmpty
        | .frz _ :: ms => cks T N r sc n c (.ss xs) (.ss ms)
        | m :: ms => (match xs with
          | x :: xs => ckS T N r (cks T N r sc n) sc c x m && cks T N r sc n c (.ss xs) (.ss ms)
          | [] => false))
      | _ => false)
theorem cks_ok (hr : ROk T N r) : ∀ n : Nat, RsOk T N sc (cks T N r sc n)
  | 0 => fun _ _ _ h => by cases h
  | n + 1 => fun c sy tm h => by
    unfold cks at h
    split at h
    · split at h
      · exact ckS_ok hr (cks_ok hr n) h
      · cases h
    · split at h
      · split at h
        · rename_i xs _ _
          have e : xs = [] := List.isEmpty_iff.mp h
          rw [e]
          exact .nil
        · exact .frz (cks_ok hr n _ _ _ h)
        · split at h
          · have := (Bool.and_eq_true _ _).mp h
            exact .cons (ckS_ok hr (cks_ok hr n) this.1) (cks_ok hr n _ _ _ this.2)
          · cases h
      · cases h
/-- a whole body -/
def ckF (T : Tb) (t : FnT) : Bool := cks T t.N (ck T t.N 200) t.scope 200 true (.ss t.body) (.ss t.fn.body)
theorem ckF_ok {t : FnT} (h : ckF T t = true) : CS T t.N t.scope true (.ss t.body) (.ss t.fn.body) := cks_ok (ck_ok 200) 200 _ _ _ h
end
end Mini

/-! Arguments bound to plain parameters. -/
namespace Mini
open PySem PySem.Spec PyProof.Rows L2
theorem lookup_zip : ∀ {ps : List Str} {us : List Value} {x : Str}, us.length = ps.length → x ∈ ps → ∃ v, List.lookup x (ps.zip us) = some v
  | [], _, _, _, m => by cases m
  | p :: ps, [], _, h, _ => by cases h
  | p :: ps, u :: us, x, h, m => by
    rw [List.zip_cons_cons, List.lookup_cons]
    by_cases e : x = p
    · rw [e]; simp
    · have : (x == p) = false := by simpa using e
      rw [this]
      rcases List.mem_cons.mp m with z | z
      · exact (e z).elim
      · exact lookup_zip (by simpa using h) z
theorem fm_congr {α β : Type} {f g : α → Option β} : ∀ {l : List α}, (∀ x ∈ l, f x = g x) → l.filterMap f = l.filterMap g
  | [], _ => rfl
  | a :: l, h => by
    rw [List.filterMap_cons, List.filterMap_cons, h a (List.mem_cons_self ..), fm_congr fun x m => h x (List.mem_cons_of_mem _ m)]
theorem map_zip : ∀ {ps : List Str} {us : List Value}, ps.Nodup → us.length = ps.length → ps.filterMap (fun n => Option.map (fun x => (n, x)) (List.lookup n (ps.zip us))) = ps.zip us
  | [], _, _, _ => by simp
  | p :: ps, [], _, h => by cases h
  | p :: ps, u :: us, nd, h => by
    obtain ⟨n1, n2⟩ := List.nodup_cons.mp nd
    have ih := map_zip (us := us) n2 (by simpa using h)
    rw [List.zip_cons_cons, List.filterMap_cons, List.lookup_cons]
    simp only [beq_self_eq_true, Option.map_some]
    congr 1
    refine (fm_congr fun x m => ?_).trans ih
    rw [List.lookup_cons]
    have : (x == p) = false := by
      have : x ≠ p := fun e => n1 (by rw [← e]; exact m)
      simpa using this
    rw [this]
theorem bind_plain {fd : FuncData} {args : List Arg} {dfs : List Expr} (hp : fd.params = ⟨[], args, none, [], [], none, dfs⟩) (hd : fd.defaults = .none) (nd : (args.map (·.arg)).Nodup) {us : List Value} (hl : us.length = (args.map (·.arg)).length) :
    bindArgs fd ⟨us, []⟩ = pure ((args.map (·.arg)).zip us) := by
  have hn : ∀ k, (List.filter (fun n => (List.lookup n ((List.map (fun x => x.arg) args).zip us)).isNone) (List.take k (List.map (fun x => x.arg) args))) = [] := fun k => by
    refine List.filter_eq_nil_iff.mpr fun x m => ?_
    obtain ⟨v, e⟩ := lookup_zip hl (List.mem_of_mem_take m)
    rw [e]; simp
  have e2 := map_zip nd hl
  rw [List.filterMap_map] at e2
  have hl2 : us.length = args.length := by simpa using hl
  unfold bindArgs
  rw [hp, hd]
  have e0 : seqItems? Value.none = pure none := rfl
  rw [e0]
  simp [hn, hl2]
  exact congrArg pure e2
end Mini

/-! A module's table of functions, classes, constants; what of it is checked in the head's world. -/
namespace Mini
open PySem PySem.Spec PyProof.Rows L2
structure FnS where
  d : He.DefD
  ps : List Str
  N : List Str
  fn : Fn
  dfl : List D
def FnS.t (s : FnS) : FnT := ⟨s.d.name, s.d.qual, s.d.params, s.d.body, s.d.scope, He.DefD.dvs [] s.d, s.ps, s.N, s.fn⟩
structure Tbl where
  fns : List FnS
  cls : List Str
  con : List (Str × D)
  fre : List Str
  ini : He.DefD
def sfN (n : Nat) : SF := fun k o => decide (k < n) && match o with
  | none => true
  | some j => j == 0 || j == k
def nums : List (Option Str) → Nat → List (Str × Nat)
  | [], _ => []
  | some x :: r, n => (x, n) :: nums r (n + 1)
  | none :: r, n => nums r (n + 1)
theorem nums_lookup {x : Str} {f : Nat} : ∀ {l : List (Option Str)} {n : Nat}, (nums l n).lookup x = some f → n ≤ f ∧ l[f - n]? = some (some x)
  | [], _, h => by cases h
  | none :: r, n, h => by
    obtain ⟨a, b⟩ := nums_lookup (l := r) (n := n + 1) h
    refine ⟨by omega, ?_⟩
    rw [show f - n = (f - (n + 1)) + 1 by omega]
    exact b
  | some y :: r, n, h => by
    unfold nums at h
    rw [List.lookup_cons] at h
    by_cases e : x = y
    · subst e
      simp at h
      subst h
      refine ⟨Nat.le_refl _, ?_⟩
      rw [Nat.sub_self]; rfl
    · have : (x == y) = false := by simpa using e
      rw [this] at h
      obtain ⟨a, b⟩ := nums_lookup (l := r) (n := n + 1) h
      refine ⟨by omega, ?_⟩
      rw [show f - n = (f - (n + 1)) + 1 by omega]
      exact b
def FnS.glo (s : FnS) : Option Str := match s.d.at_.2 with
  | none => some s.d.at_.1
  | some _ => none
def Tbl.T (tb : Tbl) : Tb where
  fns := nums (tb.fns.map FnS.glo) 0
  np := fun f => match tb.fns[f]? with
    | some s => s.ps.length
    | none => 0
  dfl := fun f => match tb.fns[f]? with
    | some s => s.dfl
    | none => []
  cls := nums (tb.cls.map some) 0
  con := tb.con
  fre := tb.fre
  sf := sfN tb.cls.length
def Tbl.P (tb : Tbl) (f : Nat) : Option FnT := (tb.fns[f]?).map FnS.t
def Tbl.fnA (tb : Tbl) (K : PySem.W.Frag) (f : Nat) : Addr := match tb.fns[f]? with
  | some s => He.fAd K s.d.at_
  | none => 0
def Tbl.clA (tb : Tbl) (K : PySem.W.Frag) (k : Nat) : Addr := match tb.cls[k]? with
  | some x => He.ga K x
  | none => 0
def Tbl.G (tb : Tbl) (K : PySem.W.Frag) : Cfg := ⟨K, tb.fnA K, tb.clA K⟩
/-! ### the text -/
def prefB : List Str → List Str → Bool
  | [], _ => true
  | a :: as, b :: bs => a == b && prefB as bs
  | _ :: _, [] => false
theorem prefB_ok : ∀ {a b : List Str}, prefB a b = true → b.take a.length = a
  | [], _, _ => rfl
  | a :: as, b :: bs, h => by
    have := (Bool.and_eq_true _ _).mp (show (a == b && prefB as bs) = true from h)
    rw [List.length_cons, List.take_succ_cons, prefB_ok this.2, eq_of_beq this.1]
  | _ :: _, [], h => by cases h
def nodB : List Str → Bool
  | [] => true
  | a :: as => !as.contains a && nodB as
theorem nodB_ok : ∀ {a : List Str}, nodB a = true → a.Nodup
  | [], _ => List.nodup_nil
  | a :: as, h => by
    have := (Bool.and_eq_true _ _).mp (show (!as.contains a && nodB as) = true from h)
    refine List.nodup_cons.mpr ⟨fun m => ?_, nodB_ok this.2⟩
    rw [List.contains_iff_mem.mpr m] at this
    cases this.1
def scB (N ps : List Str) (sc : Scope) : Bool :=
  isFn sc.kind && !sc.isCoroutine && !sc.isGenerator && nodB N && prefB ps N && ps.all (locB sc) && sc.names.all (fun y => match y.2 with
    | .free => false
    | _ => true)
theorem scB_ok {N ps : List Str} {sc : Scope} (h : scB N ps sc = true) : FnScope N ps sc := by
  unfold scB at h
  simp only [Bool.and_eq_true, Bool.not_eq_true'] at h
  obtain ⟨⟨⟨⟨⟨⟨h1, h2⟩, h3⟩, h4⟩, h5⟩, h6⟩, h7⟩ := h
  refine ⟨?_, h2, h3, nodB_ok h4, prefB_ok h5, fun x m => locB_ok (List.all_eq_true.mp h6 x m), fun y m e => ?_⟩
  · revert h1
    cases sc.kind <;> first | (intro _; rfl) | (intro h; cases h)
  · have := List.all_eq_true.mp h7 y m
    rw [e] at this
    cases this
/-- plain parameters, no defaults -/
def plainB (s : FnS) : Bool := match s.d.params with
  | ⟨[], args, none, [], [], none, _⟩ => decide (args.map (·.arg) = s.ps) && nodB s.ps && s.d.dfl.isEmpty && s.dfl.isEmpty
  | _ => false
def simpV : He.Dv → Bool
  | .non => true
  | .bl _ => true
  | .int _ => true
  | .str _ => true
  | _ => false
def fnB (T : Tb) (s : FnS) : Bool := scB s.N s.ps s.d.scope && decide (s.fn.np = s.ps.length) && decide (s.fn.ns = s.N.length) && s.d.dfl.all simpV && s.d.kwd.isEmpty && ckF T s.t
/-- a def's arguments bound -/
def BindF (s : FnS) : Prop := ∀ (K : PySem.W.Frag) (f : Addr) (fd : FuncData), FunD K s.d.name s.d.qual s.d.params s.d.body s.d.scope (He.DefD.dvs [] s.d) [] f fd → ∀ j, j ≤ s.dfl.length →
  ∃ (ds : List Value) (dvs : List V), Vals dvs ds ∧ (∀ G ι C H, Dens G ι C H (s.dfl.drop j) dvs) ∧ Binds K fd s.ps ds
theorem plain_bind {s : FnS} (h : plainB s = true) : BindF s := by
  intro K f fd F j hj
  unfold plainB at h
  split at h
  · rename_i args dfs e
    simp only [Bool.and_eq_true, decide_eq_true_eq] at h
    obtain ⟨⟨⟨h1, h2⟩, h3⟩, h4⟩ := h
    have ed : s.d.dfl = [] := List.isEmpty_iff.mp h3
    have ed2 : s.dfl = [] := List.isEmpty_iff.mp h4
    have edv : He.DefD.dvs [] s.d = [] := by simp [He.DefD.dvs, ed]
    rw [edv] at F
    refine ⟨[], [], .nil, fun G ι C H => by rw [ed2]; simp [Dens], F.bindsN fun kV doc pm an cdv ct us hl => ?_⟩
    rw [← h1]
    exact bind_plain (dfs := dfs) e rfl (by rw [h1]; exact nodB_ok h2) (by rw [h1]; exact hl)
  · cases h
theorem dvs_simp {K : PySem.W.Frag} {d : He.DefD} (h : d.dfl.all simpV = true) : He.DefD.dvs K d = He.DefD.dvs [] d := by
  unfold He.DefD.dvs
  refine List.map_congr_left fun v m => ?_
  have := List.all_eq_true.mp h v m
  cases v <;> first | rfl | cases this
theorem sf_lt {n k : Nat} {o : Option Nat} (h : sfN n k o = true) : k < n := by
  unfold sfN at h
  exact of_decide_eq_true ((Bool.and_eq_true _ _).mp h).1
theorem sf_self {n k : Nat} (h : k < n) : sfN n k (some k) = true := by simp [sfN, h]
theorem stF {tb : Tbl} (h : tb.fns.all (fnB tb.T) = true) : StF tb.T tb.P := by
  have hf : ∀ (f : Nat) (t : FnT), tb.P f = some t → ∃ s, tb.fns[f]? = some s ∧ t = s.t ∧ fnB tb.T s = true := fun f t e => by
    obtain ⟨s, e1, e2⟩ := Option.map_eq_some_iff.mp (show (tb.fns[f]?).map FnS.t = some t from e)
    exact ⟨s, e1, e2.symm, List.all_eq_true.mp h s (List.mem_of_getElem? e1)⟩
  refine ⟨fun f t e => ?_, fun f t e => ?_, fun f t e => ?_, fun x f e => ?_, fun x k e => ?_⟩
  · obtain ⟨s, e1, rfl, hb⟩ := hf f t e
    simp only [fnB, Bool.and_eq_true] at hb
    exact scB_ok hb.1.1.1.1.1
  · obtain ⟨s, e1, rfl, hb⟩ := hf f t e
    simp only [fnB, Bool.and_eq_true] at hb
    exact ckF_ok hb.2
  · obtain ⟨s, e1, rfl, hb⟩ := hf f t e
    simp only [fnB, Bool.and_eq_true, decide_eq_true_eq] at hb
    refine ⟨?_, hb.1.1.1.1.2, hb.1.1.1.2⟩
    show (match tb.fns[f]? with
      | some s => s.ps.length
      | none => 0) = s.ps.length
    rw [e1]
  · obtain ⟨_, b⟩ := nums_lookup (n := 0) e
    rw [Nat.sub_zero, List.getElem?_map] at b
    cases q : tb.fns[f]? with
    | none => rw [q] at b; cases b
    | some s => exact ⟨s.t, by show (tb.fns[f]?).map FnS.t = _; rw [q]; rfl⟩
  · obtain ⟨_, b⟩ := nums_lookup (n := 0) e
    rw [Nat.sub_zero, List.getElem?_map] at b
    cases q : tb.cls[k]? with
    | none => rw [q] at b; cases b
    | some s => exact sf_self (List.getElem?_eq_some_iff.mp q).1
/-! ### the world -/
def dvOf : D → Option He.Dv
  | .non => some .non
  | .bl b => some (.bl b)
  | .int i => some (.int i)
  | .str l => some (.str (sOf l))
  | _ => none
def dvsOf : List D → Option (List He.Dv)
  | [] => some []
  | d :: r => (dvOf d).bind fun v => (dvsOf r).map (v :: ·)
theorem dvOf_ok {d : D} {v : He.Dv} {K : PySem.W.Frag} (h : dvOf d = some v) : ∀ G ι C H, Den G ι C H d (He.Dv.v K v) := by
  intro G ι C H
  cases d <;> first | (cases h; done) | (cases h; rfl)
theorem dvsOf_ok {K : PySem.W.Frag} : ∀ {ds : List D} {vs : List He.Dv}, dvsOf ds = some vs → ∀ G ι C H, Dens G ι C H ds (vs.map (He.Dv.v K))
  | [], _, h => by cases h; exact fun G ι C H => rfl
  | d :: r, _, h => by
    obtain ⟨v, e1, h⟩ := Option.bind_eq_some_iff.mp (show (dvOf d).bind (fun v => (dvsOf r).map (v :: ·)) = _ from h)
    obtain ⟨vs, e2, rfl⟩ := Option.map_eq_some_iff.mp h
    exact fun G ι C H => ⟨_, _, rfl, dvOf_ok e1 G ι C H, dvsOf_ok e2 G ι C H⟩
def conB (K : PySem.W.Frag) (p : Str × D) : Bool := match p.2 with
  | .int i => He.Fa.ok K (.int p.1 i)
  | .str l => He.Fa.ok K (.str p.1 (sOf l))
  | .tup ds => (match dvsOf ds with
    | some vs => He.Fa.ok K (.glo p.1) && He.tupB K p.1 vs
    | none => false)
  | _ => false
theorem tupB_wr {K : PySem.W.Frag} {x : Str} {vs : List He.Dv} (h : He.tupB K x vs = true) : WrT K (He.ga K x) (vs.map (He.Dv.v K)) := by
  unfold He.tupB at h
  split at h
  · rename_i c dd its ep sl e
    simp only [Bool.and_eq_true, decide_eq_true_eq] at h
    obtain ⟨h1, h2, h3⟩ := h
    subst h1
    exact ⟨_, its, ep, e, rfl, rfl, h2, He.relAll_ok h3⟩
  · cases h
def clsPairs (tb : Tbl) (K : PySem.W.Frag) : Bool := (List.range tb.cls.length).all fun k => decide (PySem.W.kitOne K (.ref (tb.clA K k)) (.type "ValueError") = some true) && (List.range tb.cls.length).all fun j =>
  decide (PySem.W.exmOne K (.ref (tb.clA K k)) (.ref (tb.clA K j)) = some (sfN tb.cls.length k (some j))) && decide (PySem.W.kitOne K (.ref (tb.clA K k)) (.ref (tb.clA K j)) = some (sfN tb.cls.length k (some j)))
def chB (tb : Tbl) (K : PySem.W.Frag) : Bool :=
  tb.fre.all (fun x => He.Fa.ok K (.free x)) && tb.con.all (conB K) && tb.fns.all (fun s => match s.glo with
    | some x => He.Fa.ok K (.glo x)
    | none => true) &&
  tb.cls.all (fun x => He.Fa.ok K (.glo x) && kfB K (He.fAd K tb.ini.at_) (He.ga K x)) && clsPairs tb K && He.Fa.ok K (.free "ValueError") &&
  decide (PySem.W.typeIn K (.ref (He.fAd K tb.ini.at_)) = some (.type "function")) && (match PySem.W.findCls K (.type "ValueError") (.type "type") "__init__" with
    | some (.val (.builtin n)) => n == "ValueError.__init__"
    | _ => false)
/-- the making of exceptions, as the text says it -/
structure IniOk (ini : He.DefD) : Prop where
  body : ini.body = bodyI (posI ini.body) 0
  scope : ini.scope = { kind := .function, names := [("self", .local), ("act", .local), ("ValueError", .globalImplicit)], isGenerator := false, isCoroutine := false }
  dfl : ini.dfl = [.non]
  kwd : ini.kwd = []
  he : ∀ env : PySem.Env, ∃ pl, eval (.Call (.Attribute (.Name "ValueError" (posI ini.body 0)) "__init__" (posI ini.body 1)) [.Name "self" (posI ini.body 2), .Constant (.str "refused") 0 (posI ini.body 3)] [] (posI ini.body 4)) env = (do
      let ov ← eval (.Name "ValueError" (posI ini.body 0)) env
      standAt (posI ini.body 1).atName
      let (f, first) ← holding [ov] (getMethod ov "__init__" pl)
      callWith (posI ini.body 4) f first (backTo (posI ini.body 4) (starEach [.Name "self" (posI ini.body 2), .Constant (.str "refused") 0 (posI ini.body 3)] env)) (backToKw (posI ini.body 4) (keywordEach [] env)))
  bind : ∀ (T : Addr) (kV doc pm : Value) (an : Option Addr) (cdv ct : Value) (us its : List Value), us.length = 2 → its.length = 1 →
    ∃ k, bindArgs (PySem.W.fnOf ini.name ini.qual ini.params ini.body ini.scope (.ref T) kV doc pm an cdv ct) ⟨us, []⟩ = seqItems? (.ref T) >>= k ∧ k (some its.toArray) = pure ((["self", "act"] : List Str).zip (us ++ its.drop 1))
def Tbl.defs (tb : Tbl) : List He.DefD := tb.fns.map (·.d) ++ [tb.ini]
theorem wd_of {tb : Tbl} {K : PySem.W.Frag} {h : Heap} {mg : Str → Option Value} (st : tb.fns.all (fnB tb.T) = true) (hb : ∀ s ∈ tb.fns, BindF s) (ini : IniOk tb.ini) (X : K.In h) (N : h.Ns mainGlobals mg) (c : He.SaysD [] tb.defs K) (ch : chB tb K = true) :
    Wd tb.T tb.P (tb.G K) mg := by
  unfold chB at ch
  simp only [Bool.and_eq_true, decide_eq_true_eq] at ch
  obtain ⟨⟨⟨⟨⟨⟨⟨c1, c2⟩, c3⟩, c4⟩, c5⟩, c6⟩, c7⟩, c8⟩ := ch
  have hf : ∀ (f : Nat) (t : FnT), tb.P f = some t → ∃ s, tb.fns[f]? = some s ∧ t = s.t ∧ fnB tb.T s = true := fun f t e => by
    obtain ⟨s, e1, e2⟩ := Option.map_eq_some_iff.mp (show (tb.fns[f]?).map FnS.t = some t from e)
    exact ⟨s, e1, e2.symm, List.all_eq_true.mp st s (List.mem_of_getElem? e1)⟩
  have hfn : ∀ (f : Nat) (s : FnS), tb.fns[f]? = some s → tb.fnA K f = He.fAd K s.d.at_ := fun f s e => by
    unfold Tbl.fnA
    rw [e]
  have hfd : ∀ (f : Nat) (s : FnS), tb.fns[f]? = some s → fnB tb.T s = true → ∃ fd, FunD K s.d.name s.d.qual s.d.params s.d.body s.d.scope (He.DefD.dvs [] s.d) [] (tb.fnA K f) fd := fun f s e hb => by
    simp only [fnB, Bool.and_eq_true] at hb
    have e1 : tb.defs[f]? = some s.d := by
      unfold Tbl.defs
      rw [List.getElem?_append_left (by rw [List.length_map]; exact (List.getElem?_eq_some_iff.mp e).1), List.getElem?_map, e]
      rfl
    obtain ⟨fd, F⟩ := c.def_ f e1
    have ek : He.DefD.kws K s.d = [] := by
      have : s.d.kwd = [] := List.isEmpty_iff.mp hb.1.2
      unfold He.DefD.kws
      rw [this]; rfl
    rw [dvs_simp hb.1.1.2, ek, ← hfn f s e] at F
    exact ⟨fd, F⟩
  have hcl : ∀ (x : Str) (k : Nat), tb.T.cls.lookup x = some k → tb.cls[k]? = some x := fun x k e => by
    obtain ⟨_, b⟩ := nums_lookup (n := 0) e
    rw [Nat.sub_zero, List.getElem?_map] at b
    cases q : tb.cls[k]? with
    | none => rw [q] at b; cases b
    | some s => rw [q] at b; cases b; rfl
  have hclA : ∀ (x : Str) (k : Nat), tb.cls[k]? = some x → tb.clA K k = He.ga K x := fun x k e => by
    unfold Tbl.clA
    rw [e]
  refine ⟨fun x m => He.free_ok X N (List.all_eq_true.mp c1 x m), fun x d e => ?_, fun x f e => ?_, fun f t e => ?_, fun f t fd e F j hj => ?_, fun x k e => ?_, ?_, fun k j y kn e => ?_, fun k j y kn e => ?_, fun k kn => ?_⟩
  · have m : (x, d) ∈ tb.con := by
      have : tb.con.lookup x = some d := e
      clear c2 e
      revert this
      generalize tb.con = l
      induction l with
      | nil => exact fun h => by cases h
      | cons a l ih =>
        intro h
        rw [List.lookup_cons] at h
        by_cases q : x = a.1
        · subst q
          simp at h
          rw [← h]
          exact List.mem_cons_self ..
        · have : (x == a.1) = false := by simpa using q
          rw [this] at h
          exact List.mem_cons_of_mem _ (ih h)
    have q := List.all_eq_true.mp c2 _ m
    unfold conB at q
    split at q
    · rename_i i e1
      obtain ⟨t, z⟩ := He.int_ok X N q
      refine ⟨_, .int i, z, ⟨t, rfl⟩, fun ι C H => ?_⟩
      rw [show d = .int i from e1]; rfl
    · rename_i l e1
      obtain ⟨t, z⟩ := He.str_ok X N q
      refine ⟨_, .str (sOf l), z, ⟨t, rfl⟩, fun ι C H => ?_⟩
      rw [show d = .str l from e1]; rfl
    · rename_i ds e1
      split at q
      · rename_i vs e2
        obtain ⟨q1, q2⟩ := (Bool.and_eq_true _ _).mp q
        refine ⟨_, .ref (He.ga K x), He.glo_ok X N q1, rfl, fun ι C H => ?_⟩
        rw [show d = .tup ds from e1]
        exact ⟨_, _, rfl, .inr (tupB_wr q2), dvsOf_ok e2 _ ι C H⟩
      · cases q
    · cases q
  · obtain ⟨_, b⟩ := nums_lookup (n := 0) e
    rw [Nat.sub_zero, List.getElem?_map] at b
    cases q : tb.fns[f]? with
    | none => rw [q] at b; cases b
    | some s =>
      rw [q] at b
      have eg : s.glo = some x := by injection b
      have z := List.all_eq_true.mp c3 s (List.mem_of_getElem? q)
      rw [eg] at z
      obtain ⟨fd, F⟩ := hfd f s q (List.all_eq_true.mp st s (List.mem_of_getElem? q))
      have ea : He.fAd K s.d.at_ = He.ga K x := by
        unfold FnS.glo at eg
        unfold He.fAd
        cases hq : s.d.at_.2 with
        | none => rw [hq] at eg; cases eg; rfl
        | some m => rw [hq] at eg; cases eg
      refine ⟨?_, F.kp⟩
      show mg x = some (.ref (tb.fnA K f))
      rw [hfn f s q, ea]
      exact He.glo_ok X N z
  · obtain ⟨s, e1, rfl, hb'⟩ := hf f t e
    exact hfd f s e1 hb'
  · obtain ⟨s, e1, rfl, hb'⟩ := hf f t e
    have ed : tb.T.dfl f = s.dfl := by
      show (match tb.fns[f]? with
        | some s => s.dfl
        | none => []) = s.dfl
      rw [e1]
    rw [ed] at hj ⊢
    obtain ⟨ds, dvs, a, b, z⟩ := hb s (List.mem_of_getElem? e1) K _ fd F j hj
    exact ⟨ds, dvs, a, fun ι C H => b _ ι C H, z⟩
  · have q := hcl x k e
    have z := List.all_eq_true.mp c4 x (List.mem_of_getElem? q)
    show mg x = some (.ref (tb.clA K k))
    rw [hclA x k q]
    exact He.glo_ok X N ((Bool.and_eq_true _ _).mp z).1
  · have e1 : tb.defs[tb.fns.length]? = some tb.ini := by
      unfold Tbl.defs
      rw [List.getElem?_append_right (by rw [List.length_map]; exact Nat.le_refl _), List.length_map, Nat.sub_self]
      rfl
    obtain ⟨fdI, F⟩ := c.def_ _ e1
    have ek : He.DefD.kws K tb.ini = [] := by
      unfold He.DefD.kws
      rw [ini.kwd]; rfl
    have ed : He.DefD.dvs K tb.ini = [V.non] := by
      unfold He.DefD.dvs
      rw [ini.dfl]; rfl
    rw [ek, ed] at F
    refine ⟨He.fAd K tb.ini.at_, fdI, fun k kn => ?_, fun P w base CX => ?_, c7, ?_⟩
    · have hk := sf_lt (show sfN tb.cls.length k (some k) = true from kn)
      have q : tb.cls[k]? = some tb.cls[k] := List.getElem?_eq_getElem hk
      have z := List.all_eq_true.mp c4 _ (List.mem_of_getElem? q)
      show KFact K _ (tb.clA K k)
      rw [hclA _ k q]
      exact kfB_ok ((Bool.and_eq_true _ _).mp z).2
    · have F' := F
      rw [ini.body] at F'
      refine ok_init F' ini.scope ini.he (He.free_ok X N c6) ?_
      show PySem.W.findCls K (.type "ValueError") (.type "type") "__init__" = _
      revert c8
      cases PySem.W.findCls K (.type "ValueError") (.type "type") "__init__" with
      | none => exact fun h => by cases h
      | some v =>
        intro h
        split at h
        · rename_i e; cases e; rw [eq_of_beq h]
        · cases h
    · obtain ⟨ds, v, b⟩ := F.binds1 (ps := ["self", "act"]) 2 1 (by simp) rfl fun T kV doc pm an cdv ct us its h1 h2 => ini.bind T kV doc pm an cdv ct us its h1 (by simpa using h2)
      have : ds = [] := by
        cases v
        rfl
      rw [this] at b
      exact b
  · have hj := (List.getElem?_eq_some_iff.mp (hcl y j e)).1
    have := List.all_eq_true.mp c5 k (List.mem_range.mpr (sf_lt (show sfN tb.cls.length k (some k) = true from kn)))
    have := List.all_eq_true.mp ((Bool.and_eq_true _ _).mp this).2 j (List.mem_range.mpr hj)
    exact of_decide_eq_true ((Bool.and_eq_true _ _).mp this).1
  · have hj := (List.getElem?_eq_some_iff.mp (hcl y j e)).1
    have := List.all_eq_true.mp c5 k (List.mem_range.mpr (sf_lt (show sfN tb.cls.length k (some k) = true from kn)))
    have := List.all_eq_true.mp ((Bool.and_eq_true _ _).mp this).2 j (List.mem_range.mpr hj)
    exact of_decide_eq_true ((Bool.and_eq_true _ _).mp this).2
  · have := List.all_eq_true.mp c5 k (List.mem_range.mpr (sf_lt (show sfN tb.cls.length k (some k) = true from kn)))
    have e := of_decide_eq_true ((Bool.and_eq_true _ _).mp this).1
    have : tb.T.sf k none = true := by
      show sfN tb.cls.length k none = true
      simp [sfN, sf_lt (show sfN tb.cls.length k (some k) = true from kn)]
    rw [this]
    exact e
end Mini

/-! From the head's world to the law. -/
namespace Mini
open PySem PySem.Spec PyProof.Rows L2
/-! ### the head's hook -/
def obM (n : Nat) (tb : Tbl) (g : Addr → Option Obj) : Bool × He.AlD := (chB tb (He.frG g (He.asD g n)), He.obsDG n [] tb.defs g)
def hookM (n : Nat) (tb : Tbl) : PySem.W.Hook where
  α := Bool × He.AlD
  obs := fun s => obM n tb s.heap.get?
  val := fun _ => (true, He.valD tb.defs)
  says := fun _ h => ∃ K, K.In h ∧ He.SaysD [] tb.defs K ∧ chB tb K = true
  of := fun w s h => by
    have h1 := congrArg Prod.fst h
    have h2 := congrArg Prod.snd h
    exact ⟨_, He.frG_in, h2, h1⟩
  keeps := fun w h h' ⟨K, i, a, b⟩ k => ⟨K, fun c o e => k c o (i c o e), a, b⟩
theorem obM_eq {n : Nat} {tb : Tbl} {g : Addr → Option Obj} {s : Shared} (h : ∀ a, g a = s.heap.get? a) : obM n tb g = (hookM n tb).obs s := by
  rw [show g = s.heap.get? from funext h]
  rfl
/-! ### the law's def -/
theorem funD_uniq {K : PySem.W.Frag} {x q : Str} {ps : Arguments} {b : List Stmt} {sc : Scope} {dvs : List V} {kws : List (Str × V)} {f : Addr} {fd fd' : FuncData} (F : FunD K x q ps b sc dvs kws f fd) (F' : FunD K x q ps b sc dvs kws f fd') : fd = fd' := by
  obtain ⟨_, _, _, _, _, _, _, _, _, _, _, e, _⟩ := F.ex
  obtain ⟨_, _, _, _, _, _, _, _, _, _, _, e', _⟩ := F'.ex
  rw [e] at e'
  cases e'
  rfl
def CXa : CXT := fun outer H s E u s' => ∃ P w, L2.CX P w outer H s E u s'
theorem FnOk.cxa {P : Program} {w : World} {K : PySem.W.Frag} {mg : Str → Option Value} {base : Heap} {k : Nat} {f : Addr} {fd : FuncData} {ps : List Str} {sp : Sp} (F : FnOk P w K mg base (L2.CX P w) k f fd ps sp) : FnOk P w K mg base CXa k f fd ps sp :=
  ⟨F.len, fun A outer s H args us vs Q E r e b v h => codeAny_mono (F.run A outer s H args us vs Q E r e b v h) fun r s' h => by
    cases r with
    | ok fl => cases fl <;> exact h
    | error e => exact ⟨P, w, h⟩⟩
theorem cxa_none (H : Hp) (s : Shared) (e : Value) (s' : Shared) (h : CXa [] H s (fun _ _ _ => False) e s') : False := by
  obtain ⟨P, w, _, _, _, _, _, _, _, _, _, _, _, _, h⟩ := h
  exact h
/-- the script, handed over -/
theorem spM_script {G : Cfg} {nm : FdN} {cf : CF} {f : Nat} {H : Hp} {a : Addr} {ns : List Int} (only : Only H) (sq : SqL G.K H a (ns.map V.int)) {M : Mem} (h : cf f [.frz (ns.map .int)] [] = .ok (.bl true) M) :
    spM G nm cf 1 f [.ref a] H (fun v _ => v = .bl true) (fun _ _ _ => False) := by
  refine ⟨[], [], [], [.frz (ns.map .int)], rfl, ⟨rfl, List.nodup_nil, fun a m => (by cases m), fun a m => (by cases m), fun n c a e => (by simp at e), fun i s e => (by simp at e), fun i j d d' v e => (by simp at e), rfl, Ext.refl, fun a m => (by cases m), fun a m => (by cases m)⟩, ?_, ?_⟩
  · refine ⟨_, _, rfl, ⟨a, ns.map V.int, rfl, ?_, Dens.of_ints⟩, rfl⟩
    rcases sq with (h | h) | h
    · rcases only a with z | ⟨o, xs, z⟩
      · rw [h] at z; cases z
      · rw [h] at z; cases z
    · obtain ⟨o, h⟩ := h
      exact .inl ⟨List.not_mem_nil, o, h⟩
    · exact .inr h
  · rw [h]
    exact fun v ι' H' r hd g => hd
/-- the law's def keeps its promise, where the plain law holds -/
theorem law_ok {tb : Tbl} {k f : Nat} {s : FnS} {xl nmL : Str} (st : tb.fns.all (fnB tb.T) = true) (hb : ∀ s ∈ tb.fns, BindF s) (ini : IniOk tb.ini) (hs : tb.fns[f]? = some s) (pl : plainB s = true) (hps : s.ps = [xl]) (hlk : tb.T.fns.lookup nmL = some f) (hk : Room (k + 2) callerA)
    (plain : ∀ ns : List Int, ns.length ≤ 63 → ∃ M, callN (Pm tb.P) tb.T.sf k f [.frz (ns.map .int)] [] = .ok (.bl true) M)
    {P : Program} {w : World} {mg : Str → Option Value} {fa : Addr} {h : Heap} (Y : ∃ K : PySem.W.Frag, K.In h ∧ He.SaysD [] tb.defs K ∧ chB tb K = true) (G : h.Ns mainGlobals mg) (hmg : mg nmL = some (.ref fa)) :
    ∃ K fd sp, K.In h ∧ (∀ (s : Shared) (u : Value), BindsTo s fd ⟨[u], []⟩ [(xl, u)]) ∧ (∀ (H : Hp) (a : Addr) (ns : List Int), ns.length ≤ 63 → Only H → SqL K H a (ns.map V.int) → sp [.ref a] H (fun v _ => v = .bl true) fun _ _ _ => False) ∧
      ∀ base : Heap, K.In base → base.Ns mainGlobals mg → FnOk P w K mg base CXa (k + 2) fa fd [xl] sp := by
  obtain ⟨K, X, c, ch⟩ := Y
  have wd := wd_of st hb ini X G c ch
  have sf := stF st
  have ht : tb.P f = some s.t := by
    show (tb.fns[f]?).map FnS.t = _
    rw [hs]; rfl
  obtain ⟨fd, F⟩ := wd.fd f s.t ht
  have efa := (wd.fns nmL f hlk).1
  rw [hmg] at efa
  have ea : fa = (tb.G K).fnA f := by cases efa; rfl
  have hnp : tb.T.np f = 1 := by
    have := (sf.np f s.t ht).1
    rw [this]
    show s.ps.length = 1
    rw [hps]; rfl
  refine ⟨K, fd, spM (tb.G K) (fun _ => "") (callN (Pm tb.P) tb.T.sf k) (tb.T.np f) f, X, fun s1 u => ?_, fun H a ns hl only sq => ?_, fun base hK hN => ?_⟩
  · have pl' := pl
    unfold plainB at pl'
    split at pl'
    · rename_i args dfs e
      simp only [Bool.and_eq_true, decide_eq_true_eq] at pl'
      obtain ⟨⟨⟨h1, h2⟩, h3⟩, h4⟩ := pl'
      have ed : s.d.dfl = [] := List.isEmpty_iff.mp h3
      have edv : s.t.dvs = [] := by simp [FnS.t, He.DefD.dvs, ed]
      rw [edv] at F
      have b := FunD.bindsA (ps := [xl]) F fun kV doc pm an cdv ct us hl => by
        have hl2 : us.length = (args.map (·.arg)).length := by rw [h1, hps]; exact hl
        have e2 := bind_plain (fd := PySem.W.fnOf s.t.nm s.t.qual s.t.params s.t.body s.t.scope Value.none kV doc pm an cdv ct) (dfs := dfs) e rfl (by rw [h1]; exact nodB_ok h2) hl2
        rw [h1, hps] at e2
        exact e2
      exact b s1 [u] rfl
    · cases pl'
  · obtain ⟨M, e⟩ := plain ns hl
    rw [hnp]
    exact spM_script only sq e
  · obtain ⟨fd', F', O⟩ := fns_ok wd sf (fun _ => "") P w base k f s.t ht
    rw [funD_uniq F F', ea]
    have ep : s.t.ps = [xl] := hps
    rw [ep] at O
    exact FnOk.cxa O
end Mini

/-! What a run of the small language wants: one rule a construct, for proofs about its functions. -/
namespace Mini
open PySem
abbrev CFn := Nat → List D → Mem → R D
abbrev SFn := Nat → Option Nat → Bool
def wR {α : Type} (r : R α) (Q : α → Mem → Prop) (X : Nat → D → Mem → Prop) : Prop := match r with
  | .ok a m => Q a m
  | .exc c a m => X c a m
  | .bad => False
section
variable (cf : CFn) (sub : SFn) (env : Env)
def wE (e : E) (m : Mem) (Q : D → Mem → Prop) (X : Nat → D → Mem → Prop) : Prop := wR (evalE cf sub env e m) Q X
def wEs (es : List E) (m : Mem) (Q : List D → Mem → Prop) (X : Nat → D → Mem → Prop) : Prop := wR (evalEs cf sub env es m) Q X
def wO (e : Option E) (m : Mem) (Q : Option Int → Mem → Prop) (X : Nat → D → Mem → Prop) : Prop := wR (evalO cf sub env e m) Q X
def wI (e : It) (m : Mem) (Q : List D → Mem → Prop) (X : Nat → D → Mem → Prop) : Prop := wR (evalI cf sub env e m) Q X
end
section
variable {cf : CFn} {sub : SFn} {env : Env} {m : Mem} {X : Nat → D → Mem → Prop}
theorem wR_bind {α β : Type} {r : R α} {f : α → Mem → R β} {Q : β → Mem → Prop} (h : wR r (fun a m => wR (f a m) Q X) X) : wR (r.bind f) Q X := by
  cases r <;> exact h
theorem wR_of {α : Type} {o : Option α} {Q : α → Mem → Prop} (h : ∃ a, o = some a ∧ Q a m) : wR (R.of o m) Q X := by
  obtain ⟨a, rfl, h⟩ := h
  exact h
theorem wR_eq {α : Type} {r : R α} {Q : α → Mem → Prop} {a : α} {m' : Mem} (e : r = .ok a m') (h : Q a m') : wR r Q X := by
  rw [e]; exact h
theorem wR_ex {α : Type} {r : R α} {Q : α → Mem → Prop} {c : Nat} {a : D} {m' : Mem} (e : r = .exc c a m') (h : X c a m') : wR r Q X := by
  rw [e]; exact h
theorem wR_mono {α : Type} {r : R α} {Q Q' : α → Mem → Prop} (h : wR r Q X) (k : ∀ a m, Q a m → Q' a m) : wR r Q' X := by
  cases r with
  | ok a m => exact k a m h
  | exc c a m => exact h
  | bad => exact h
theorem wE_lit {d : D} {Q : D → Mem → Prop} (h : Q d m) : wE cf sub env (.lit d) m Q X := h
theorem wE_glob {d : D} {Q : D → Mem → Prop} (h : Q d m) : wE cf sub env (.glob d) m Q X := h
theorem wE_var {i : Nat} {d : D} {Q : D → Mem → Prop} (e : rdVal env i = some d) (h : Q d m) : wE cf sub env (.var i) m Q X := wR_of ⟨d, e, h⟩
theorem wE_bvar {i : Nat} {d : D} {Q : D → Mem → Prop} (e : rdAny env i = some d) (h : Q d m) : wE cf sub env (.bvar i) m Q X := wR_of ⟨d, e, h⟩
theorem wE_tup {es : List E} {Q : D → Mem → Prop} (h : wEs cf sub env es m (fun ds m1 => Q (.tup ds) m1) X) : wE cf sub env (.tup es) m Q X := wR_bind h
theorem wE_lst {es : List E} {Q : D → Mem → Prop} (h : wEs cf sub env es m (fun ds m1 => Q (.lst ds) m1) X) : wE cf sub env (.lst es) m Q X := wR_bind h
theorem wEs_nil {Q : List D → Mem → Prop} (h : Q [] m) : wEs cf sub env [] m Q X := h
theorem wEs_cons {e : E} {es : List E} {Q : List D → Mem → Prop} (h : wE cf sub env e m (fun x m1 => wEs cf sub env es m1 (fun xs m2 => Q (x :: xs) m2) X) X) : wEs cf sub env (e :: es) m Q X :=
  wR_bind (wR_mono h fun _ _ h => wR_bind h)
theorem wE_op {o : Op} {a b : E} {Q : D → Mem → Prop} (h : wE cf sub env a m (fun x m1 => wE cf sub env b m1 (fun y m2 => ∃ z, opD o (peek m2 x) (peek m2 y) = some z ∧ Q z m2) X) X) : wE cf sub env (.op o a b) m Q X :=
  wR_bind (wR_mono h fun _ _ h => wR_bind (wR_mono h fun _ _ h => wR_of h))
theorem wE_chain {o o' : Op} {a b c : E} {Q : D → Mem → Prop} (h : wE cf sub env a m (fun x m1 => wE cf sub env b m1 (fun y m2 => ∃ k, opD o (peek m2 x) (peek m2 y) = some (.bl k) ∧ (k = true → wE cf sub env c m2 (fun z m4 => ∃ w, opD o' (peek m4 y) (peek m4 z) = some w ∧ Q w m4) X) ∧ (k = false → Q (.bl false) m2)) X) X) :
    wE cf sub env (.chain o o' a b c) m Q X :=
  wR_bind (wR_mono h fun _ _ h => wR_bind (wR_mono h fun _ m2 h => wR_bind (wR_of (by
    obtain ⟨k, e, h1, h2⟩ := h
    refine ⟨_, e, ?_⟩
    cases k with
    | true => exact wR_bind (wR_mono (h1 rfl) fun _ _ h => wR_of h)
    | false => exact h2 rfl))))
theorem wE_neg {a : E} {Q : D → Mem → Prop} (h : wE cf sub env a m (fun x m1 => ∃ i, x = .int i ∧ Q (.int (-i)) m1) X) : wE cf sub env (.neg a) m Q X :=
  wR_bind (wR_mono h fun _ _ ⟨i, e, h⟩ => by rw [e]; exact h)
theorem wE_not {a : E} {Q : D → Mem → Prop} (h : wE cf sub env a m (fun x m1 => ∃ i, x = .bl i ∧ Q (.bl (!i)) m1) X) : wE cf sub env (.not a) m Q X :=
  wR_bind (wR_mono h fun _ _ ⟨i, e, h⟩ => by rw [e]; exact h)
theorem wE_and {a b : E} {Q : D → Mem → Prop} (h : wE cf sub env a m (fun x m1 => ∃ i, x = .bl i ∧ (i = true → wE cf sub env b m1 Q X) ∧ (i = false → Q (.bl false) m1)) X) : wE cf sub env (.and a b) m Q X :=
  wR_bind (wR_mono h fun _ _ ⟨i, e, h1, h2⟩ => by
    rw [e]
    cases i with
    | true => exact h1 rfl
    | false => exact h2 rfl)
theorem wE_or {a b : E} {Q : D → Mem → Prop} (h : wE cf sub env a m (fun x m1 => ∃ i, x = .bl i ∧ (i = true → Q (.bl true) m1) ∧ (i = false → wE cf sub env b m1 Q X)) X) : wE cf sub env (.or a b) m Q X :=
  wR_bind (wR_mono h fun _ _ ⟨i, e, h1, h2⟩ => by
    rw [e]
    cases i with
    | true => exact h1 rfl
    | false => exact h2 rfl)
theorem wE_ife {c a b : E} {Q : D → Mem → Prop} (h : wE cf sub env c m (fun x m1 => ∃ i, x = .bl i ∧ (i = true → wE cf sub env a m1 Q X) ∧ (i = false → wE cf sub env b m1 Q X)) X) : wE cf sub env (.ife c a b) m Q X :=
  wR_bind (wR_mono h fun _ _ ⟨i, e, h1, h2⟩ => by
    rw [e]
    cases i with
    | true => exact h1 rfl
    | false => exact h2 rfl)
theorem wE_sub {a i : E} {Q : D → Mem → Prop} (h : wE cf sub env a m (fun x m1 => wE cf sub env i m1 (fun y m2 => ∃ z, subD (peekR m2 x) y = some z ∧ Q z m2) X) X) : wE cf sub env (.sub a i) m Q X :=
  wR_bind (wR_mono h fun _ _ h => wR_bind (wR_mono h fun _ _ h => wR_of h))
theorem wO_none {Q : Option Int → Mem → Prop} (h : Q none m) : wO cf sub env none m Q X := h
theorem wO_some {e : E} {Q : Option Int → Mem → Prop} (h : wE cf sub env e m (fun x m1 => ∃ i, x = .int i ∧ Q (some i) m1) X) : wO cf sub env (some e) m Q X :=
  wR_bind (wR_mono h fun _ _ ⟨i, e, h⟩ => by rw [e]; exact h)
theorem wE_slc {a : E} {lo hi : Option E} {Q : D → Mem → Prop} (h : wE cf sub env a m (fun x m1 => wO cf sub env lo m1 (fun y m2 => wO cf sub env hi m2 (fun z m3 => ∃ w, slcD y z (peekR m3 x) = some w ∧ Q w m3) X) X) X) : wE cf sub env (.slc a lo hi) m Q X :=
  wR_bind (wR_mono h fun _ _ h => wR_bind (wR_mono h fun _ _ h => wR_bind (wR_mono h fun _ _ h => wR_of h)))
theorem wE_bi {b : Bi} {es : List E} {Q : D → Mem → Prop} (h : wEs cf sub env es m (fun ds m1 => ∃ z, biD b (ds.map (peekR m1)) = some z ∧ Q z m1) X) : wE cf sub env (.bi b es) m Q X :=
  wR_bind (wR_mono h fun _ _ h => wR_of h)
theorem wE_mt {b : Bi} {o : E} {es : List E} {Q : D → Mem → Prop} (h : wE cf sub env o m (fun x m1 => recv b (peekR m1 x) = true ∧ wEs cf sub env es m1 (fun ds m2 => ∃ z, biD b (peekR m1 x :: ds.map (peekR m2)) = some z ∧ Q z m2) X) X) : wE cf sub env (.mt b o es) m Q X :=
  wR_bind (wR_mono h fun _ _ ⟨hr, h⟩ => by
    rw [if_pos hr]
    exact wR_bind (wR_mono h fun _ _ h => wR_of h))
theorem wE_isi {a : E} {t : Ty} {Q : D → Mem → Prop} (h : wE cf sub env a m (fun x m1 => ∃ b, isTy t (peekR m1 x) = some b ∧ Q (.bl b) m1) X) : wE cf sub env (.isi a t) m Q X :=
  wR_bind (wR_mono h fun _ _ ⟨b, e, h⟩ => wR_of ⟨_, by rw [e]; rfl, h⟩)
theorem wE_call {f : Nat} {es : List E} {dfl : List D} {Q : D → Mem → Prop} (h : wEs cf sub env es m (fun ds m1 => wR (cf f (ds ++ dfl) m1) Q X) X) : wE cf sub env (.call f es dfl) m Q X := wR_bind h
theorem wE_isx {i k : Nat} {c : Option Nat} {act : D} {Q : D → Mem → Prop} (e : env[i]? = some (some (.exn k act))) (h : Q (.bl (sub k c)) m) : wE cf sub env (.isx i c) m Q X := by
  show wR (match env[i]? with
    | some (some (.exn k _)) => R.ok (D.bl (sub k c)) m
    | _ => .bad) Q X
  rw [e]; exact h
theorem wE_actx {i k : Nat} {act : D} {Q : D → Mem → Prop} (e : env[i]? = some (some (.exn k act))) (h : Q act m) : wE cf sub env (.actx i) m Q X := by
  show wR (match env[i]? with
    | some (some (.exn _ act)) => R.ok act m
    | _ => .bad) Q X
  rw [e]; exact h
/-! ### what is walked, comprehensions -/
theorem wI_of {e : E} {Q : List D → Mem → Prop} (h : wE cf sub env e m (fun x m1 => ∃ ds, itemsOf x = some ds ∧ Q ds m1) X) : wI cf sub env (.of e) m Q X := wR_bind (wR_mono h fun _ _ h => wR_of h)
theorem wI_range1 {e : E} {Q : List D → Mem → Prop} (h : wE cf sub env e m (fun x m1 => ∃ j : Int, x = .int j ∧ (-(2 ^ 62) ≤ j ∧ j < 2 ^ 62) ∧ Q (rangeL 0 j.toNat) m1) X) : wI cf sub env (.range1 e) m Q X :=
  wR_bind (wR_mono h fun _ _ ⟨j, e, c, h⟩ => by
    rw [e]
    dsimp only
    rw [if_pos c]
    exact h)
theorem wI_enum {e : E} {Q : List D → Mem → Prop} (h : wE cf sub env e m (fun x m1 => ∃ ds, (x = .lst ds ∨ x = .frz ds) ∧ Q (enumL ds) m1) X) : wI cf sub env (.enum e) m Q X :=
  wR_bind (wR_mono h fun _ _ ⟨ds, e, h⟩ => by
    rcases e with e | e <;> (rw [e]; exact h))
def wL (step : D → Mem → R (Option D)) (ds : List D) (m : Mem) (Q : List D → Mem → Prop) : Prop := ∃ rs m', lcGo step ds m = .ok rs m' ∧ Q rs m'
theorem wE_lc {e : E} {t : Tg} {it : It} {c : Option E} {Q : D → Mem → Prop} (h : wI cf sub env it m (fun ds m1 => wL (lcStep (fun env m => evalE cf sub env e m) (condE cf sub c) t env) ds m1 (fun rs m2 => rs.length ≤ LN ∧ Q (.lst rs) m2)) X) : wE cf sub env (.lc e t it c) m Q X := by
  unfold wE
  rw [evalE_lc]
  refine wR_bind (wR_mono h fun ds m1 ⟨rs, m', e, h1, h2⟩ => ?_)
  rw [e]
  show wR (if rs.length ≤ LN then R.ok (.lst rs) m' else .bad) Q X
  rw [if_pos h1]
  exact h2
def noXX : Nat → D → Mem → Prop := fun _ _ _ => False
/-- each item to one item, the store as it was -/
theorem wL_map {step : D → Mem → R (Option D)} (g : D → D) : ∀ {ds : List D} {Q : List D → Mem → Prop}, (∀ d ∈ ds, step d m = .ok (some (g d)) m) → Q (ds.map g) m → wL step ds m Q
  | [], Q, _, h => ⟨[], m, rfl, h⟩
  | d :: ds, Q, hd, h => by
    obtain ⟨rs, m', e, q1, q2⟩ := wL_map (step := step) g (ds := ds) (Q := fun rs m' => rs = ds.map g ∧ m' = m) (fun x mx => hd x (List.mem_cons_of_mem _ mx)) ⟨rfl, rfl⟩
    subst q1 q2
    exact ⟨_, _, by simp only [lcGo]; rw [hd d (List.mem_cons_self ..), R.bind_ok, e]; rfl, h⟩
/-- .. where a test holds -/
theorem wL_fmap {step : D → Mem → R (Option D)} (g : D → Option D) : ∀ {ds : List D} {Q : List D → Mem → Prop}, (∀ d ∈ ds, step d m = .ok (g d) m) → Q (ds.filterMap g) m → wL step ds m Q
  | [], Q, _, h => ⟨[], m, rfl, h⟩
  | d :: ds, Q, hd, h => by
    obtain ⟨rs, m', e, q1, q2⟩ := wL_fmap (step := step) g (ds := ds) (Q := fun rs m' => rs = ds.filterMap g ∧ m' = m) (fun x mx => hd x (List.mem_cons_of_mem _ mx)) ⟨rfl, rfl⟩
    subst q1 q2
    refine ⟨_, _, by simp only [lcGo]; rw [hd d (List.mem_cons_self ..), R.bind_ok, e]; rfl, ?_⟩
    rw [List.filterMap_cons] at h
    revert h
    cases g d <;> exact fun h => h
/-- with an invariant over what was made and the store -/
theorem wL_inv {step : D → Mem → R (Option D)} {Q : List D → Mem → Prop} (I : Nat → List D → Mem → Prop) : ∀ (ds : List D) (n : Nat) (m : Mem) (acc : List D), I n acc m → (∀ i d acc m, i < ds.length → ds[i]? = some d → I (n + i) acc m → ∃ o m', step d m = .ok o m' ∧ I (n + i + 1) (acc ++ (match o with | some x => [x] | none => [])) m') →
    (∀ rs m', I (n + ds.length) rs m' → Q rs m') → wL step ds m (fun rs m' => Q (acc ++ rs) m')
  | [], n, m, acc, h, _, hq => ⟨[], m, rfl, by show Q (acc ++ []) m; rw [List.append_nil]; exact hq acc m h⟩
  | d :: ds, n, m, acc, h, hs, hq => by
    obtain ⟨o, m1, e, h1⟩ := hs 0 d acc m (Nat.succ_pos _) rfl h
    obtain ⟨rs, m', e2, q⟩ := wL_inv (step := step) (Q := Q) I ds (n + 1) m1 _ h1 (fun i d acc m hi hd hI => by
      have := hs (i + 1) d acc m (Nat.succ_lt_succ hi) hd (by rw [show n + (i + 1) = n + 1 + i by omega]; exact hI)
      rw [show n + (i + 1) + 1 = n + 1 + i + 1 by omega] at this
      exact this) (fun rs m' h => hq rs m' (by rw [List.length_cons, show n + (ds.length + 1) = n + 1 + ds.length by omega]; exact h))
    refine ⟨_, m', by simp only [lcGo]; rw [e, R.bind_ok, e2]; rfl, ?_⟩
    rw [List.append_assoc] at q
    cases o <;> exact q
theorem lcStep_none {ee : Env → Mem → R D} {t : Tg} {d : D} {env' : Env} {x : D} {m' : Mem} (hb : bindT t d env = some env') (h : ee env' m = .ok x m') : lcStep ee none t env d m = .ok (some x) m' := by
  unfold lcStep
  rw [hb]
  dsimp only
  rw [h]; rfl
theorem lcStep_true {ee ce : Env → Mem → R D} {t : Tg} {d : D} {env' : Env} {x : D} {m1 m' : Mem} (hb : bindT t d env = some env') (hc : ce env' m = .ok (.bl true) m1) (h : ee env' m1 = .ok x m') : lcStep ee (some ce) t env d m = .ok (some x) m' := by
  unfold lcStep
  rw [hb]
  dsimp only
  rw [hc, R.bind_ok]
  dsimp only
  rw [h]; rfl
theorem lcStep_false {ee ce : Env → Mem → R D} {t : Tg} {d : D} {env' : Env} {m1 : Mem} (hb : bindT t d env = some env') (hc : ce env' m = .ok (.bl false) m1) : lcStep ee (some ce) t env d m = .ok none m1 := by
  unfold lcStep
  rw [hb]
  dsimp only
  rw [hc]; rfl
/-- a run's value, by what it wants -/
theorem ev_of {e : E} {d : D} {m' : Mem} (h : wE cf sub env e m (fun x m1 => x = d ∧ m1 = m') noXX) : evalE cf sub env e m = .ok d m' := by
  unfold wE at h
  revert h
  cases evalE cf sub env e m with
  | ok a m1 => rintro ⟨rfl, rfl⟩; rfl
  | exc c a m1 => exact fun h => h.elim
  | bad => exact fun h => h.elim
end
/-! ### statements -/
structure En where
  nx : Env → Mem → Prop
  rt : D → Mem → Prop
  ct : Env → Mem → Prop := fun _ _ => False
  ex : Nat → D → Env → Mem → Prop := fun _ _ _ _ => False
def wRS (r : RS) (Z : En) : Prop := match r with
  | .nx env m => Z.nx env m
  | .ret d m => Z.rt d m
  | .cont env m => Z.ct env m
  | .exc c a env m => Z.ex c a env m
  | .bad => False
section
variable (cf : CFn) (sub : SFn) (env : Env)
def wS (s : S) (m : Mem) (Z : En) : Prop := wRS (execS cf sub env s m) Z
def wSs (ss : List S) (m : Mem) (Z : En) : Prop := wRS (execSs cf sub env ss m) Z
end
section
variable {cf : CFn} {sub : SFn} {env : Env} {m : Mem} {Z : En}
theorem wRS_toS {α : Type} {r : R α} {f : α → Mem → RS} (h : wR r (fun a m => wRS (f a m) Z) (fun c a m => Z.ex c a env m)) : wRS (toS env r f) Z := by
  cases r <;> exact h
theorem wRS_mono {r : RS} {Z' : En} (h : wRS r Z) (h1 : ∀ env m, Z.nx env m → Z'.nx env m) (h2 : ∀ d m, Z.rt d m → Z'.rt d m) (h3 : ∀ env m, Z.ct env m → Z'.ct env m) (h4 : ∀ c a env m, Z.ex c a env m → Z'.ex c a env m) : wRS r Z' := by
  cases r with
  | nx env m => exact h1 _ _ h
  | ret d m => exact h2 _ _ h
  | cont env m => exact h3 _ _ h
  | exc c a env m => exact h4 _ _ _ _ h
  | bad => exact h
theorem wSs_nil (h : Z.nx env m) : wSs cf sub env [] m Z := h
theorem wSs_cons {s : S} {ss : List S} (h : wS cf sub env s m { Z with nx := fun env' m' => wSs cf sub env' ss m' Z }) : wSs cf sub env (s :: ss) m Z := by
  unfold wSs
  show wRS (match execS cf sub env s m with
    | .nx env' m1 => execSs cf sub env' ss m1
    | r => r) Z
  unfold wS at h
  revert h
  cases execS cf sub env s m <;> exact fun h => h
theorem wS_set {i : Nat} {e : E} (h : wE cf sub env e m (fun d m1 => Z.nx (env.set i (some (.val d))) m1) (fun c a m => Z.ex c a env m)) : wS cf sub env (.set i e) m Z := wRS_toS h
theorem wS_own {i : Nat} {e : E} (h : wE cf sub env e m (fun d m1 => Z.nx (env.set i (some (.own d))) m1) (fun c a m => Z.ex c a env m)) : wS cf sub env (.own i e) m Z := wRS_toS h
theorem wS_new {i : Nat} {e : E} (h : wE cf sub env e m (fun d m1 => ∃ ds, d = .lst ds ∧ Z.nx (env.set i (some (.val (.ref m1.length)))) (m1 ++ [.lst ds])) (fun c a m => Z.ex c a env m)) : wS cf sub env (.new i e) m Z :=
  wRS_toS (wR_mono h fun _ _ ⟨ds, e, h⟩ => by rw [e]; exact h)
theorem wS_frz {i : Nat} {ds : List D} (e : ownL env i = some ds) (h : Z.nx (env.set i (some (.val (.lst ds)))) m) : wS cf sub env (.frz i) m Z := by
  show wRS (match ownL env i with
    | some ds => .nx (env.set i (some (.val (.lst ds)))) m
    | none => .nx env m) Z
  rw [e]; exact h
theorem wS_unp {is : List Nat} {e : E} (h : wE cf sub env e m (fun d m1 => ∃ ds env', d = .tup ds ∧ putAll is ds env = some env' ∧ Z.nx env' m1) (fun c a m => Z.ex c a env m)) : wS cf sub env (.unp is e) m Z :=
  wRS_toS (wR_mono h fun _ _ ⟨ds, env', e1, e2, h⟩ => by
    rw [e1]
    show wRS (match putAll is ds env with
      | some env' => .nx env' _
      | none => .bad) Z
    rw [e2]; exact h)
theorem wS_sti {o i v : E} (h : wE cf sub env v m (fun y m1 => wE cf sub env o m1 (fun x m2 => wE cf sub env i m2 (fun k m3 => ∃ n ds j p, x = .ref n ∧ m3[n]? = some (.lst ds) ∧ k = .int j ∧ ixOf ds.length j = some p ∧ Z.nx env (m3.set n (.lst (ds.set p y)))) (fun c a m => Z.ex c a env m)) (fun c a m => Z.ex c a env m)) (fun c a m => Z.ex c a env m)) :
    wS cf sub env (.sti o i v) m Z :=
  wRS_toS (wR_mono h fun y m1 h => wRS_toS (wR_mono h fun x m2 h => wRS_toS (wR_mono h fun k m3 ⟨n, ds, j, p, e1, e2, e3, e4, h5⟩ => by
    subst e1 e3
    simp only [e2, e4]
    exact h5)))
theorem wS_app {i : Nat} {e : E} {ds : List D} (eo : ownL env i = some ds) (h : wE cf sub env e m (fun d m1 => ds.length < LN ∧ Z.nx (env.set i (some (.own (.lst (ds ++ [d]))))) m1) (fun c a m => Z.ex c a env m)) : wS cf sub env (.app i e) m Z := by
  unfold wS
  show wRS (match ownL env i with
    | some ds => toS env (evalE cf sub env e m) fun d m1 => if ds.length < LN then .nx (env.set i (some (.own (.lst (ds ++ [d]))))) m1 else .bad
    | none => .bad) Z
  rw [eo]
  exact wRS_toS (wR_mono h fun d m1 ⟨h1, h2⟩ => by rw [if_pos h1]; exact h2)
theorem wS_exp {e : E} (h : wE cf sub env e m (fun _ m1 => Z.nx env m1) (fun c a m => Z.ex c a env m)) : wS cf sub env (.exp e) m Z := wRS_toS h
theorem wS_ret {e : E} (h : wE cf sub env e m (fun d m1 => Z.rt d m1) (fun c a m => Z.ex c a env m)) : wS cf sub env (.ret e) m Z := wRS_toS h
theorem wS_raise {c : Nat} {e : E} (h : wE cf sub env e m (fun d m1 => Z.ex c d env m1) (fun c a m => Z.ex c a env m)) : wS cf sub env (.raise c e) m Z := wRS_toS h
theorem wS_ife {c : E} {a b : List S} (h : wE cf sub env c m (fun x m1 => ∃ i, x = .bl i ∧ (i = true → wSs cf sub env a m1 Z) ∧ (i = false → wSs cf sub env b m1 Z)) (fun c a m => Z.ex c a env m)) : wS cf sub env (.ife c a b) m Z :=
  wRS_toS (wR_mono h fun _ _ ⟨i, e, h1, h2⟩ => by
    rw [e]
    cases i with
    | true => exact h1 rfl
    | false => exact h2 rfl)
theorem wS_pass (h : Z.nx env m) : wS cf sub env .pass m Z := h
theorem wS_cont (h : Z.ct env m) : wS cf sub env .cont m Z := h
theorem wS_for {t : Tg} {it : It} {b : List S} (h : wI cf sub env it m (fun ds m1 => wRS (forGo (fun env m => execSs cf sub env b m) t ds env m1) Z) (fun c a m => Z.ex c a env m)) : wS cf sub env (.for t it b) m Z := wRS_toS h
/-- a loop by an invariant -/
theorem for_inv {body : Env → Mem → RS} {t : Tg} (I : Nat → Env → Mem → Prop) : ∀ (ds : List D) (n : Nat) (env : Env) (m : Mem), I n env m → (∀ i d env m, ds[i]? = some d → I (n + i) env m → ∃ env', bindT t d env = some env' ∧ wRS (body env' m) { nx := I (n + i + 1), rt := Z.rt, ct := I (n + i + 1), ex := Z.ex }) →
    (∀ env m, I (n + ds.length) env m → Z.nx env m) → wRS (forGo body t ds env m) Z
  | [], n, env, m, h, _, hq => hq env m h
  | d :: ds, n, env, m, h, hs, hq => by
    obtain ⟨env', e, h1⟩ := hs 0 d env m rfl h
    have ih := for_inv (body := body) (t := t) I ds (n + 1)
    have ih2 := fun env m hI => ih env m hI (fun i d env m hd hI => by
      have := hs (i + 1) d env m hd (by rw [show n + (i + 1) = n + 1 + i by omega]; exact hI)
      rw [show n + (i + 1) + 1 = n + 1 + i + 1 by omega] at this
      exact this) (fun env m h => hq env m (by rw [List.length_cons, show n + (ds.length + 1) = n + 1 + ds.length by omega]; exact h))
    unfold forGo
    rw [e]
    dsimp only
    revert h1
    cases body env' m with
    | nx env2 m2 => exact fun h1 => ih2 env2 m2 h1
    | cont env2 m2 => exact fun h1 => ih2 env2 m2 h1
    | ret d m => exact fun h1 => h1
    | exc c a env m => exact fun h1 => h1
    | bad => exact fun h1 => h1
theorem wS_try1 {b h : List S} {c i : Nat} (hb : wSs cf sub env b m { Z with ex := fun k act env' m1 => sub k (some k) = true ∧ (sub k (some c) = true → wSs cf sub (env'.set i (some (.exn k act))) h m1 { nx := fun env'' m2 => noExn (env''.set i none) = true ∧ Z.nx (env''.set i none) m2, rt := fun _ _ => False }) ∧ (sub k (some c) = false → Z.ex k act env' m1) }) :
    wS cf sub env (.try1 b c i h) m Z := by
  unfold wS
  show wRS (match execSs cf sub env b m with
    | .exc k act env' m1 => if sub k (some k) = true then (if sub k (some c) = true then (match execSs cf sub (env'.set i (some (.exn k act))) h m1 with
        | .nx env'' m2 => if noExn (env''.set i none) = true then .nx (env''.set i none) m2 else .bad
        | _ => .bad) else .exc k act env' m1) else .bad
    | r => r) Z
  unfold wSs at hb
  revert hb
  cases execSs cf sub env b m with
  | nx _ _ => exact fun h => h
  | ret _ _ => exact fun h => h
  | cont _ _ => exact fun h => h
  | bad => exact fun h => h
  | exc k act env' m1 =>
    rintro ⟨h1, h2, h3⟩
    dsimp only
    rw [if_pos h1]
    cases hk : sub k (some c) with
    | false => rw [if_neg Bool.false_ne_true]; exact h3 hk
    | true =>
      rw [if_pos rfl]
      have h4 := h2 hk
      unfold wSs at h4
      revert h4
      cases execSs cf sub (env'.set i (some (.exn k act))) h m1 with
      | nx env'' m2 =>
        rintro ⟨a1, a2⟩
        dsimp only
        rw [if_pos a1]
        exact a2
      | ret _ _ => exact fun h => h.elim
      | cont _ _ => exact fun h => h.elim
      | exc _ _ _ _ => exact fun h => h.elim
      | bad => exact fun h => h.elim
end
/-- a function's answer -/
theorem fn_eq {P : Nat → Option Fn} {sub : SFn} {k f : Nat} {fn : Fn} {ds : List D} {m : Mem} {r : R D} (h : P f = some fn) (hl : ds.length = fn.np)
    (hb : wSs (callN P sub k) sub (startE ds fn.ns) fn.body m { nx := fun _ m1 => R.ok .non m1 = r, rt := fun d m1 => R.ok d m1 = r, ex := fun c a _ m1 => R.exc c a m1 = r }) : callN P sub (k + 1) f ds m = r := by
  have e : callN P sub (k + 1) f ds m = runFn (callN P sub k) sub fn ds m := by simp [callN, h]
  rw [e]
  unfold runFn
  rw [if_pos hl]
  unfold wSs at hb
  revert hb
  cases execSs (callN P sub k) sub (startE ds fn.ns) fn.body m with
  | nx _ _ => exact fun h => h
  | ret _ _ => exact fun h => h
  | exc _ _ _ _ => exact fun h => h
  | cont _ _ => exact fun h => h.elim
  | bad => exact fun h => h.elim
/-- .. by a wish -/
theorem fn_wR {P : Nat → Option Fn} {sub : SFn} {k f : Nat} {fn : Fn} {ds : List D} {m : Mem} {Q : D → Mem → Prop} {X : Nat → D → Mem → Prop} (h : P f = some fn) (hl : ds.length = fn.np)
    (hb : wSs (callN P sub k) sub (startE ds fn.ns) fn.body m { nx := fun _ m1 => Q .non m1, rt := Q, ex := fun c a _ m1 => X c a m1 }) : wR (callN P sub (k + 1) f ds m) Q X := by
  have e : callN P sub (k + 1) f ds m = runFn (callN P sub k) sub fn ds m := by simp [callN, h]
  rw [e]
  unfold runFn
  rw [if_pos hl]
  unfold wSs at hb
  revert hb
  cases execSs (callN P sub k) sub (startE ds fn.ns) fn.body m with
  | nx _ _ => exact fun h => h
  | ret _ _ => exact fun h => h
  | exc _ _ _ _ => exact fun h => h
  | cont _ _ => exact fun h => h.elim
  | bad => exact fun h => h.elim
end Mini
namespace Mini
theorem mul_r {i j : Int} (h : small j = true) : opD .mul (.int i) (.int j) = some (.int (i * j)) := by
  show (if (small i || small j) = true then some (D.int (i * j)) else none) = _
  rw [h, Bool.or_true, if_pos rfl]
theorem mul_l {i j : Int} (h : small i = true) : opD .mul (.int i) (.int j) = some (.int (i * j)) := by
  show (if (small i || small j) = true then some (D.int (i * j)) else none) = _
  rw [h, Bool.true_or, if_pos rfl]
end Mini

/-! Equality of data, by the data themselves. -/
namespace Mini
open PySem
mutual
def dep : D → Nat
  | .tup ds => deps ds + 1
  | .lst ds => deps ds + 1
  | _ => 0
def deps : List D → Nat
  | [] => 0
  | d :: ds => max (dep d) (deps ds)
end
mutual
/-- data alone -/
def pla : D → Bool
  | .tup ds => plas ds
  | .lst ds => plas ds
  | .dct _ => false
  | .ref _ => false
  | .fn _ => false
  | .frz _ => false
  | .str s => s.all fun c => decide (c < 1114112)
  | _ => true
def plas : List D → Bool
  | [] => true
  | d :: ds => pla d && plas ds
end
mutual
/-- no truths -/
def nob : D → Bool
  | .tup ds => nobs ds
  | .lst ds => nobs ds
  | .dct _ => false
  | .ref _ => false
  | .fn _ => false
  | .frz _ => false
  | .bl _ => false
  | .str s => s.all fun c => decide (c < 1114112)
  | _ => true
def nobs : List D → Bool
  | [] => true
  | d :: ds => nob d && nobs ds
end
mutual
def eqvD : D → D → Bool
  | .non, .non => true
  | .bl a, .bl b => a == b
  | .bl a, .int j => (if a = true then 1 else 0) == j
  | .int i, .bl b => i == if b = true then 1 else 0
  | .int i, .int j => i == j
  | .str a, .str b => a == b
  | .tup a, .tup b => eqvDs a b
  | .lst a, .lst b => eqvDs a b
  | _, _ => false
def eqvDs : List D → List D → Bool
  | [], [] => true
  | a :: as, b :: bs => eqvD a b && eqvDs as bs
  | _, _ => false
end
mutual
theorem toP_ok : ∀ {d : D}, pla d = true → ∃ p, toP d = some p ∧ p.canLay0 = true ∧ p.depth = dep d
  | .non, _ => ⟨.none, rfl, rfl, rfl⟩
  | .bl b, _ => ⟨.bool b, rfl, rfl, rfl⟩
  | .int b, _ => ⟨.int b, rfl, rfl, rfl⟩
  | .str b, h => ⟨.str ⟨b.toArray⟩, rfl, by
    show Array.all b.toArray (fun x => decide (x < 1114112)) = true
    rw [List.all_toArray]
    exact h, rfl⟩
  | .tup ds, h => by
    obtain ⟨ps, e, h1, h2⟩ := toPs_ok (show plas ds = true from h)
    refine ⟨.tuple ps, by simp [toP, e], h1, ?_⟩
    show PyData.depthAll ps + 1 = deps ds + 1
    rw [h2]
  | .lst ds, h => by
    obtain ⟨ps, e, h1, h2⟩ := toPs_ok (show plas ds = true from h)
    refine ⟨.list ps, by simp [toP, e], h1, ?_⟩
    show PyData.depthAll ps + 1 = deps ds + 1
    rw [h2]
  | .dct _, h => by cases h
  | .ref _, h => by cases h
  | .fn _, h => by cases h
  | .frz _, h => by cases h
theorem toPs_ok : ∀ {ds : List D}, plas ds = true → ∃ ps, toPs ds = some ps ∧ PyData.canLayAll0 ps = true ∧ PyData.depthAll ps = deps ds
  | [], _ => ⟨[], rfl, rfl, rfl⟩
  | d :: ds, h => by
    have hh := (Bool.and_eq_true _ _).mp (show (pla d && plas ds) = true from h)
    obtain ⟨p, e, h1, h2⟩ := toP_ok hh.1
    obtain ⟨ps, e2, h3, h4⟩ := toPs_ok hh.2
    refine ⟨p :: ps, by simp [toPs, e, e2], ?_, ?_⟩
    · show (p.canLay0 && PyData.canLayAll0 ps) = true
      rw [h1, h3]; rfl
    · show max p.depth (PyData.depthAll ps) = max (dep d) (deps ds)
      rw [h2, h4]
end
theorem str_beq {a b : List Nat} : ((⟨a.toArray⟩ : Str) == ⟨b.toArray⟩) = (a == b) := by
  rw [Bool.eq_iff_iff, beq_iff_eq, beq_iff_eq]
  exact ⟨fun e => by injection e with e; exact List.toArray_inj e, fun e => by rw [e]⟩
mutual
theorem eqvP : ∀ {a b : D} {p q : PyData}, toP a = some p → toP b = some q → PyData.eqv p q = eqvD a b
  | .non, b, p, q, h1, h2 => by
    cases h1
    cases b with
    | tup ds => obtain ⟨ps, _, rfl⟩ := Option.map_eq_some_iff.mp (show (toPs ds).map .tuple = some q from h2); rfl
    | lst ds => obtain ⟨ps, _, rfl⟩ := Option.map_eq_some_iff.mp (show (toPs ds).map .list = some q from h2); rfl
    | _ => first | (cases h2; rfl) | cases h2
  | .bl x, b, p, q, h1, h2 => by
    cases h1
    cases b with
    | tup ds => obtain ⟨ps, _, rfl⟩ := Option.map_eq_some_iff.mp (show (toPs ds).map .tuple = some q from h2); rfl
    | lst ds => obtain ⟨ps, _, rfl⟩ := Option.map_eq_some_iff.mp (show (toPs ds).map .list = some q from h2); rfl
    | _ => first | (cases h2; rfl) | cases h2
  | .int x, b, p, q, h1, h2 => by
    cases h1
    cases b with
    | tup ds => obtain ⟨ps, _, rfl⟩ := Option.map_eq_some_iff.mp (show (toPs ds).map .tuple = some q from h2); rfl
    | lst ds => obtain ⟨ps, _, rfl⟩ := Option.map_eq_some_iff.mp (show (toPs ds).map .list = some q from h2); rfl
    | _ => first | (cases h2; rfl) | cases h2
  | .str x, b, p, q, h1, h2 => by
    cases h1
    cases b with
    | tup ds => obtain ⟨ps, _, rfl⟩ := Option.map_eq_some_iff.mp (show (toPs ds).map .tuple = some q from h2); rfl
    | lst ds => obtain ⟨ps, _, rfl⟩ := Option.map_eq_some_iff.mp (show (toPs ds).map .list = some q from h2); rfl
    | str y => cases h2; exact str_beq
    | _ => first | (cases h2; rfl) | cases h2
  | .tup xs, b, p, q, h1, h2 => by
    obtain ⟨ps, e1, rfl⟩ := Option.map_eq_some_iff.mp (show (toPs xs).map .tuple = some p from h1)
    cases b with
    | tup ds =>
      obtain ⟨qs, e2, rfl⟩ := Option.map_eq_some_iff.mp (show (toPs ds).map .tuple = some q from h2)
      exact eqvPs e1 e2
    | lst ds => obtain ⟨ps, _, rfl⟩ := Option.map_eq_some_iff.mp (show (toPs ds).map .list = some q from h2); rfl
    | _ => first | (cases h2; rfl) | cases h2
  | .lst xs, b, p, q, h1, h2 => by
    obtain ⟨ps, e1, rfl⟩ := Option.map_eq_some_iff.mp (show (toPs xs).map .list = some p from h1)
    cases b with
    | lst ds =>
      obtain ⟨qs, e2, rfl⟩ := Option.map_eq_some_iff.mp (show (toPs ds).map .list = some q from h2)
      exact eqvPs e1 e2
    | tup ds => obtain ⟨ps, _, rfl⟩ := Option.map_eq_some_iff.mp (show (toPs ds).map .tuple = some q from h2); rfl
    | _ => first | (cases h2; rfl) | cases h2
  | .dct _, _, _, _, h, _ => by cases h
  | .ref _, _, _, _, h, _ => by cases h
  | .fn _, _, _, _, h, _ => by cases h
  | .frz _, _, _, _, h, _ => by cases h
theorem eqvPs : ∀ {a b : List D} {p q : List PyData}, toPs a = some p → toPs b = some q → PyData.eqvAll p q = eqvDs a b
  | [], b, p, q, h1, h2 => by
    cases h1
    cases b with
    | nil => cases h2; rfl
    | cons b bs =>
      obtain ⟨p, _, h2⟩ := Option.bind_eq_some_iff.mp (show (toP b).bind (fun p => (toPs bs).map fun ps => p :: ps) = some q from h2)
      obtain ⟨ps, _, rfl⟩ := Option.map_eq_some_iff.mp h2
      rfl
  | a :: as, b, p, q, h1, h2 => by
    obtain ⟨p1, e1, h1⟩ := Option.bind_eq_some_iff.mp (show (toP a).bind (fun p => (toPs as).map fun ps => p :: ps) = some p from h1)
    obtain ⟨ps1, e2, rfl⟩ := Option.map_eq_some_iff.mp h1
    cases b with
    | nil => cases h2; rfl
    | cons b bs =>
      obtain ⟨p2, e3, h2⟩ := Option.bind_eq_some_iff.mp (show (toP b).bind (fun p => (toPs bs).map fun ps => p :: ps) = some q from h2)
      obtain ⟨ps2, e4, rfl⟩ := Option.map_eq_some_iff.mp h2
      show (PyData.eqv p1 p2 && PyData.eqvAll ps1 ps2) = (eqvD a b && eqvDs as bs)
      rw [eqvP e1 e3, eqvPs e2 e4]
end
theorem deqO_val {a b : D} (ha : pla a = true) (hb : pla b = true) (da : dep a ≤ 64) (db : dep b ≤ 64) : deqO a b = some (eqvD a b) := by
  obtain ⟨p, e1, h1, h2⟩ := toP_ok ha
  obtain ⟨q, e2, h3, h4⟩ := toP_ok hb
  unfold deqO
  rw [e1, e2, Option.bind_some, Option.bind_some]
  have : (SeqAt.shaped p && SeqAt.shaped q) = true := by
    simp [SeqAt.shaped, h1, h3, h2, h4, da, db]
  rw [if_pos this, eqvP e1 e2]
mutual
theorem eqvD_iff : ∀ {a b : D}, nob a = true → nob b = true → (eqvD a b = true ↔ a = b)
  | .non, b, _, hb => by cases b <;> simp [eqvD]
  | .int x, b, _, hb => by
    cases b with
    | bl _ => cases hb
    | _ => simp [eqvD]
  | .str x, b, _, hb => by cases b <;> simp [eqvD]
  | .tup x, b, ha, hb => by
    cases b with
    | tup y =>
      simp only [eqvD, D.tup.injEq]
      exact eqvDs_iff ha hb
    | _ => simp [eqvD]
  | .lst x, b, ha, hb => by
    cases b with
    | lst y =>
      simp only [eqvD, D.lst.injEq]
      exact eqvDs_iff ha hb
    | _ => simp [eqvD]
  | .bl _, _, h, _ => by cases h
  | .dct _, _, h, _ => by cases h
  | .ref _, _, h, _ => by cases h
  | .fn _, _, h, _ => by cases h
  | .frz _, _, h, _ => by cases h
theorem eqvDs_iff : ∀ {a b : List D}, nobs a = true → nobs b = true → (eqvDs a b = true ↔ a = b)
  | [], b, _, _ => by cases b <;> simp [eqvDs]
  | a :: as, b, ha, hb => by
    have h1 := (Bool.and_eq_true _ _).mp (show (nob a && nobs as) = true from ha)
    cases b with
    | nil => simp [eqvDs]
    | cons b bs =>
      have h2 := (Bool.and_eq_true _ _).mp (show (nob b && nobs bs) = true from hb)
      simp only [eqvDs, Bool.and_eq_true, List.cons.injEq]
      rw [eqvD_iff h1.1 h2.1, eqvDs_iff h1.2 h2.2]
end
mutual
theorem nob_pla : ∀ {a : D}, nob a = true → pla a = true
  | .non, _ => rfl
  | .int _, _ => rfl
  | .str _, h => h
  | .bl _, h => by cases h
  | .tup x, h => nobs_plas (a := x) h
  | .lst x, h => nobs_plas (a := x) h
  | .dct _, h => by cases h
  | .ref _, h => by cases h
  | .fn _, h => by cases h
  | .frz _, h => by cases h
theorem nobs_plas : ∀ {a : List D}, nobs a = true → plas a = true
  | [], _ => rfl
  | a :: as, h => by
    have h1 := (Bool.and_eq_true _ _).mp (show (nob a && nobs as) = true from h)
    show (pla a && plas as) = true
    rw [nob_pla h1.1, nobs_plas h1.2]; rfl
end
mutual
theorem eqvD_refl : ∀ {a : D}, pla a = true → eqvD a a = true
  | .non, _ => rfl
  | .int _, _ => by simp [eqvD]
  | .str _, _ => by simp [eqvD]
  | .bl _, _ => by simp [eqvD]
  | .tup x, h => eqvDs_refl (a := x) h
  | .lst x, h => eqvDs_refl (a := x) h
  | .dct _, h => by cases h
  | .ref _, h => by cases h
  | .fn _, h => by cases h
  | .frz _, h => by cases h
theorem eqvDs_refl : ∀ {a : List D}, plas a = true → eqvDs a a = true
  | [], _ => rfl
  | a :: as, h => by
    have h1 := (Bool.and_eq_true _ _).mp (show (pla a && plas as) = true from h)
    show (eqvD a a && eqvDs as as) = true
    rw [eqvD_refl h1.1, eqvDs_refl h1.2]; rfl
end
theorem deq_str {a b : List Nat} : deq (.str a) (.str b) = some (decide (a = b)) := rfl
theorem deq_val {a b : D} (ha : pla a = true) (hb : pla b = true) (da : dep a ≤ 64) (db : dep b ≤ 64) : deq a b = some (eqvD a b) := by
  have e := deqO_val ha hb da db
  cases a <;> cases b <;> first
    | exact e
    | (show some (decide (_ = _)) = some (_ == _)
       congr 1
       rw [Bool.eq_iff_iff, decide_eq_true_iff, beq_iff_eq])
theorem deq_int {i j : Int} : deq (.int i) (.int j) = some (decide (i = j)) := by
  rw [deq_val rfl rfl (Nat.zero_le _) (Nat.zero_le _)]
  by_cases h : i = j <;> simp [eqvD, h]
theorem deq_bl {a b : Bool} : deq (.bl a) (.bl b) = some (decide (a = b)) := by
  cases a <;> cases b <;> rfl
end Mini

/-! What a run wants, reckoned: a Prop that a text of the small language computes to. -/
namespace Mini
open PySem
theorem ite_ok {α : Type} {c : Prop} [Decidable c] {a : α} {P : α → Prop} (h : c ∧ P a) : ∃ z, (if c then some a else none) = some z ∧ P z := ⟨a, if_pos h.1, h.2⟩
def opW (o : Op) (x y : D) (Q : D → Prop) : Prop := match o with
  | .add => (match x, y with
    | .int i, .int j => Q (.int (i + j))
    | .str a, .str b => a.length + b.length ≤ LN ∧ Q (.str (a ++ b))
    | .lst a, .lst b => a.length + b.length ≤ LN ∧ Q (.lst (a ++ b))
    | .tup a, .tup b => a.length + b.length ≤ LN ∧ Q (.tup (a ++ b))
    | x, y => ∃ z, addD x y = some z ∧ Q z)
  | .sub => (match x, y with
    | .int i, .int j => Q (.int (i - j))
    | _, _ => False)
  | .mul => (match x, y with
    | .int i, .int j => (small i || small j) = true ∧ Q (.int (i * j))
    | x, y => ∃ z, mulD x y = some z ∧ Q z)
  | .fdiv => (match x, y with
    | .int i, .int j => (0 < j ∧ j < 1073741824) ∧ Q (.int (i / j))
    | _, _ => False)
  | .mod => (match x, y with
    | .int i, .int j => 0 < j ∧ Q (.int (i % j))
    | _, _ => False)
  | .pow => (match x, y with
    | .int i, .int j => (0 ≤ j ∧ j ≤ 1000 ∧ small i = true) ∧ Q (.int (i ^ j.toNat))
    | _, _ => False)
  | .eq => ∃ k, deq x y = some k ∧ Q (.bl k)
  | .ne => ∃ k, deq x y = some k ∧ Q (.bl (!k))
  | .lt => (match x, y with
    | .int i, .int j => Q (.bl (decide (i < j)))
    | .str a, .str b => Q (.bl (slt a b))
    | _, _ => False)
  | .gt => (match x, y with
    | .int i, .int j => Q (.bl (decide (j < i)))
    | .str a, .str b => Q (.bl (slt b a))
    | _, _ => False)
  | .le => (match x, y with
    | .int i, .int j => Q (.bl (decide (i ≤ j)))
    | .str a, .str b => Q (.bl (!slt b a))
    | _, _ => False)
  | .ge => (match x, y with
    | .int i, .int j => Q (.bl (decide (j ≤ i)))
    | .str a, .str b => Q (.bl (!slt a b))
    | _, _ => False)
  | .isN => (match y with
    | .non => Q (.bl (isNon x))
    | _ => False)
  | .notN => (match y with
    | .non => Q (.bl (!isNon x))
    | _ => False)
  | .mem => ∃ k, memOp x y = some k ∧ Q (.bl k)
  | .nmem => ∃ k, memOp x y = some k ∧ Q (.bl (!k))
theorem nlt_le {i j : Int} : (!decide (j < i)) = decide (i ≤ j) := by
  by_cases h : j < i
  · rw [decide_eq_true h, decide_eq_false (by omega)]; rfl
  · rw [decide_eq_false h, decide_eq_true (by omega)]; rfl
theorem opW_ok {o : Op} {x y : D} {Q : D → Prop} (h : opW o x y Q) : ∃ z, opD o x y = some z ∧ Q z := by
  cases o with
  | add =>
    cases x <;> cases y <;> first
      | exact ⟨_, rfl, h⟩
      | exact ite_ok h
      | exact h
  | sub => cases x <;> cases y <;> first | exact ⟨_, rfl, h⟩ | exact h.elim
  | mul =>
    cases x <;> cases y <;> first
      | exact ite_ok h
      | exact h
  | fdiv => cases x <;> cases y <;> first | exact ite_ok h | exact h.elim
  | mod => cases x <;> cases y <;> first | exact ite_ok h | exact h.elim
  | pow => cases x <;> cases y <;> first | exact ite_ok h | exact h.elim
  | eq =>
    obtain ⟨k, e, h⟩ := h
    exact ⟨_, by show (deq x y).map D.bl = _; rw [e]; rfl, h⟩
  | ne =>
    obtain ⟨k, e, h⟩ := h
    exact ⟨_, by show (deq x y).map (fun k => D.bl !k) = _; rw [e]; rfl, h⟩
  | lt => cases x <;> cases y <;> first | exact ⟨_, rfl, h⟩ | exact h.elim
  | gt => cases x <;> cases y <;> first | exact ⟨_, rfl, h⟩ | exact h.elim
  | le => cases x <;> cases y <;> first | exact h.elim | exact ⟨_, rfl, by show Q (.bl (!decide _)); rw [nlt_le]; exact h⟩ | exact ⟨_, rfl, h⟩
  | ge => cases x <;> cases y <;> first | exact h.elim | exact ⟨_, rfl, by show Q (.bl (!decide _)); rw [nlt_le]; exact h⟩ | exact ⟨_, rfl, h⟩
  | isN => cases y <;> first | exact ⟨_, rfl, h⟩ | exact h.elim
  | notN => cases y <;> first | exact ⟨_, rfl, h⟩ | exact h.elim
  | mem =>
    obtain ⟨k, e, h⟩ := h
    exact ⟨_, by show (memOp x y).map D.bl = _; rw [e]; rfl, h⟩
  | nmem =>
    obtain ⟨k, e, h⟩ := h
    exact ⟨_, by show (memOp x y).map (fun k => D.bl !k) = _; rw [e]; rfl, h⟩
def biW (b : Bi) (ds : List D) (Q : D → Prop) : Prop := match b with
  | .len => (match ds with
    | [.str s] => s.length ≤ LN ∧ Q (.int s.length)
    | [.lst s] => Q (.int s.length)
    | [.tup s] => Q (.int s.length)
    | ds => ∃ z, biD .len ds = some z ∧ Q z)
  | .str => (match ds with
    | [.int i] => i.natAbs < 2 ^ 1900 ∧ Q (.str (strInt i))
    | ds => ∃ z, biD .str ds = some z ∧ Q z)
  | .int => (match ds with
    | [.bl b] => Q (.int (if b then 1 else 0))
    | ds => ∃ z, biD .int ds = some z ∧ Q z)
  | b => ∃ z, biD b ds = some z ∧ Q z
theorem biW_ok {b : Bi} {ds : List D} {Q : D → Prop} (h : biW b ds Q) : ∃ z, biD b ds = some z ∧ Q z := by
  unfold biW at h
  split at h
  · split at h
    · exact ite_ok h
    · exact ⟨_, rfl, h⟩
    · exact ⟨_, rfl, h⟩
    · exact h
  · split at h
    · exact ite_ok h
    · exact h
  · split at h
    · exact ⟨_, rfl, h⟩
    · exact h
  · exact h
def orF (o : Option D) (Q : D → Prop) : Prop := match o with
  | some d => Q d
  | none => False
/-- a call's answer; a loop's end; a comprehension's -/
structure CallW (r : R D) (Q : D → Mem → Prop) (X : Nat → D → Mem → Prop) : Prop where
  get : wR r Q X
structure LoopW (r : RS) (Z : En) : Prop where
  get : wRS r Z
structure LcW (step : D → Mem → R (Option D)) (ds : List D) (m : Mem) (Q : List D → Mem → Prop) : Prop where
  get : wL step ds m Q
theorem call_is {r : R D} {Q : D → Mem → Prop} {X : Nat → D → Mem → Prop} {d : D} {m : Mem} (e : r = .ok d m) (h : Q d m) : CallW r Q X := ⟨wR_eq e h⟩
theorem call_ex {r : R D} {Q : D → Mem → Prop} {X : Nat → D → Mem → Prop} {c : Nat} {d : D} {m : Mem} (e : r = .exc c d m) (h : X c d m) : CallW r Q X := ⟨wR_ex e h⟩
theorem call_w {r : R D} {Q Q' : D → Mem → Prop} {X : Nat → D → Mem → Prop} (e : wR r Q' X) (h : ∀ d m, Q' d m → Q d m) : CallW r Q X := ⟨wR_mono e h⟩
section
variable (cf : CFn) (sub : SFn)
mutual
def wpE : E → Env → Mem → (D → Mem → Prop) → (Nat → D → Mem → Prop) → Prop
  | .lit d, _, m, Q, _ => Q d m
  | .var i, env, m, Q, _ => orF (rdVal env i) fun d => Q d m
  | .bvar i, env, m, Q, _ => orF (rdAny env i) fun d => Q d m
  | .glob d, _, m, Q, _ => Q d m
  | .tup es, env, m, Q, X => wpEs es env m (fun ds m1 => Q (.tup ds) m1) X
  | .lst es, env, m, Q, X => wpEs es env m (fun ds m1 => Q (.lst ds) m1) X
  | .op o a b, env, m, Q, X => wpE a env m (fun x m1 => wpE b env m1 (fun y m2 => opW o (peek m2 x) (peek m2 y) fun z => Q z m2) X) X
  | .chain o o' a b c, env, m, Q, X => wpE a env m (fun x m1 => wpE b env m1 (fun y m2 => opW o (peek m2 x) (peek m2 y) fun k => ∃ b, k = .bl b ∧ (b = true → wpE c env m2 (fun z m4 => opW o' (peek m4 y) (peek m4 z) fun w => Q w m4) X) ∧ (b = false → Q (.bl false) m2)) X) X
  | .neg a, env, m, Q, X => wpE a env m (fun x m1 => ∃ i, x = .int i ∧ Q (.int (-i)) m1) X
  | .not a, env, m, Q, X => wpE a env m (fun x m1 => ∃ i, x = .bl i ∧ Q (.bl (!i)) m1) X
  | .and a b, env, m, Q, X => wpE a env m (fun x m1 => ∃ i, x = .bl i ∧ (i = true → wpE b env m1 Q X) ∧ (i = false → Q (.bl false) m1)) X
  | .or a b, env, m, Q, X => wpE a env m (fun x m1 => ∃ i, x = .bl i ∧ (i = true → Q (.bl true) m1) ∧ (i = false → wpE b env m1 Q X)) X
  | .ife c a b, env, m, Q, X => wpE c env m (fun x m1 => ∃ i, x = .bl i ∧ (i = true → wpE a env m1 Q X) ∧ (i = false → wpE b env m1 Q X)) X
  | .sub a i, env, m, Q, X => wpE a env m (fun x m1 => wpE i env m1 (fun y m2 => ∃ z, subD (peekR m2 x) y = some z ∧ Q z m2) X) X
  | .slc a lo hi, env, m, Q, X => wpE a env m (fun x m1 => wpO lo env m1 (fun y m2 => wpO hi env m2 (fun z m3 => ∃ w, slcD y z (peekR m3 x) = some w ∧ Q w m3) X) X) X
  | .bi b es, env, m, Q, X => wpEs es env m (fun ds m1 => biW b (ds.map (peekR m1)) fun z => Q z m1) X
  | .mt b o es, env, m, Q, X => wpE o env m (fun x m1 => recv b (peekR m1 x) = true ∧ wpEs es env m1 (fun ds m2 => ∃ z, biD b (peekR m1 x :: ds.map (peekR m2)) = some z ∧ Q z m2) X) X
  | .isi a t, env, m, Q, X => wpE a env m (fun x m1 => ∃ b, isTy t (peekR m1 x) = some b ∧ Q (.bl b) m1) X
  | .call f es dfl, env, m, Q, X => wpEs es env m (fun ds m1 => CallW (cf f (ds ++ dfl) m1) Q X) X
  | .lc e t it c, env, m, Q, X => wpI it env m (fun ds m1 => LcW (lcStep (fun env m => evalE cf sub env e m) (condE cf sub c) t env) ds m1 (fun rs m2 => rs.length ≤ LN ∧ Q (.lst rs) m2)) X
  | .isx i c, env, m, Q, _ => (match env[i]? with
    | some (some (.exn k _)) => Q (.bl (sub k c)) m
    | _ => False)
  | .actx i, env, m, Q, _ => (match env[i]? with
    | some (some (.exn _ act)) => Q act m
    | _ => False)
  | e, env, m, Q, X => wE cf sub env e m Q X
def wpEs : List E → Env → Mem → (List D → Mem → Prop) → (Nat → D → Mem → Prop) → Prop
  | [], _, m, Q, _ => Q [] m
  | e :: es, env, m, Q, X => wpE e env m (fun x m1 => wpEs es env m1 (fun xs m2 => Q (x :: xs) m2) X) X
def wpO : Option E → Env → Mem → (Option Int → Mem → Prop) → (Nat → D → Mem → Prop) → Prop
  | none, _, m, Q, _ => Q none m
  | some e, env, m, Q, X => wpE e env m (fun x m1 => ∃ i, x = .int i ∧ Q (some i) m1) X
def wpI : It → Env → Mem → (List D → Mem → Prop) → (Nat → D → Mem → Prop) → Prop
  | .of e, env, m, Q, X => wpE e env m (fun x m1 => ∃ ds, itemsOf x = some ds ∧ Q ds m1) X
  | .range1 e, env, m, Q, X => wpE e env m (fun x m1 => ∃ j : Int, x = .int j ∧ (-(2 ^ 62) ≤ j ∧ j < 2 ^ 62) ∧ Q (rangeL 0 j.toNat) m1) X
  | .enum e, env, m, Q, X => wpE e env m (fun x m1 => ∃ ds, (x = .lst ds ∨ x = .frz ds) ∧ Q (enumL ds) m1) X
  | i, env, m, Q, X => wI cf sub env i m Q X
end
end
section
variable {cf : CFn} {sub : SFn}
theorem orF_ok {o : Option D} {Q : D → Prop} (h : orF o Q) : ∃ d, o = some d ∧ Q d := by
  cases o with
  | none => exact h.elim
  | some d => exact ⟨d, rfl, h⟩
mutual
theorem wpE_ok : ∀ (e : E) (env : Env) (m : Mem) (Q : D → Mem → Prop) (X : Nat → D → Mem → Prop), wpE cf sub e env m Q X → wE cf sub env e m Q X
  | .lit d, env, m, Q, X, h => h
  | .var i, env, m, Q, X, h => let ⟨d, e, q⟩ := orF_ok h; wE_var e q
  | .bvar i, env, m, Q, X, h => let ⟨d, e, q⟩ := orF_ok h; wE_bvar e q
  | .glob d, env, m, Q, X, h => h
  | .tup es, env, m, Q, X, h => wE_tup (wpEs_ok es env m _ X h)
  | .lst es, env, m, Q, X, h => wE_lst (wpEs_ok es env m _ X h)
  | .op o a b, env, m, Q, X, h => wE_op (wR_mono (wpE_ok a env m _ X h) fun x m1 h => wR_mono (wpE_ok b env m1 _ X h) fun y m2 h => opW_ok h)
  | .chain o o' a b c, env, m, Q, X, h => wE_chain (wR_mono (wpE_ok a env m _ X h) fun x m1 h => wR_mono (wpE_ok b env m1 _ X h) fun y m2 h => by
      obtain ⟨z, e, k, rfl, h1, h2⟩ := opW_ok h
      exact ⟨k, e, fun hk => wR_mono (wpE_ok c env m2 _ X (h1 hk)) fun z m4 h => opW_ok h, h2⟩)
  | .neg a, env, m, Q, X, h => wE_neg (wpE_ok a env m _ X h)
  | .not a, env, m, Q, X, h => wE_not (wpE_ok a env m _ X h)
  | .and a b, env, m, Q, X, h => wE_and (wR_mono (wpE_ok a env m _ X h) fun x m1 ⟨i, e, h1, h2⟩ => ⟨i, e, fun hi => wpE_ok b env m1 Q X (h1 hi), h2⟩)
  | .or a b, env, m, Q, X, h => wE_or (wR_mono (wpE_ok a env m _ X h) fun x m1 ⟨i, e, h1, h2⟩ => ⟨i, e, h1, fun hi => wpE_ok b env m1 Q X (h2 hi)⟩)
  | .ife c a b, env, m, Q, X, h => wE_ife (wR_mono (wpE_ok c env m _ X h) fun x m1 ⟨i, e, h1, h2⟩ => ⟨i, e, fun hi => wpE_ok a env m1 Q X (h1 hi), fun hi => wpE_ok b env m1 Q X (h2 hi)⟩)
  | .sub a i, env, m, Q, X, h => wE_sub (wR_mono (wpE_ok a env m _ X h) fun x m1 h => wpE_ok i env m1 _ X h)
  | .slc a lo hi, env, m, Q, X, h => wE_slc (wR_mono (wpE_ok a env m _ X h) fun x m1 h => wR_mono (wpO_ok lo env m1 _ X h) fun y m2 h => wpO_ok hi env m2 _ X h)
  | .bi b es, env, m, Q, X, h => wE_bi (wR_mono (wpEs_ok es env m _ X h) fun ds m1 h => biW_ok h)
  | .mt b o es, env, m, Q, X, h => wE_mt (wR_mono (wpE_ok o env m _ X h) fun x m1 ⟨h1, h2⟩ => ⟨h1, wpEs_ok es env m1 _ X h2⟩)
  | .isi a t, env, m, Q, X, h => wE_isi (wpE_ok a env m _ X h)
  | .call f es dfl, env, m, Q, X, h => wE_call (wR_mono (wpEs_ok es env m _ X h) fun ds m1 h => h.get)
  | .lc e t it c, env, m, Q, X, h => wE_lc (wR_mono (wpI_ok it env m _ X h) fun ds m1 h => h.get)
  | .isx i c, env, m, Q, X, h => by
    unfold wpE at h
    split at h
    · rename_i e; exact wE_isx e h
    · exact h.elim
  | .actx i, env, m, Q, X, h => by
    unfold wpE at h
    split at h
    · rename_i e; exact wE_actx e h
    · exact h.elim
  | .callv _ _, env, m, Q, X, h => h
  | .meth _ _ _ _, env, m, Q, X, h => h
  | .fld _ _, env, m, Q, X, h => h
theorem wpEs_ok : ∀ (es : List E) (env : Env) (m : Mem) (Q : List D → Mem → Prop) (X : Nat → D → Mem → Prop), wpEs cf sub es env m Q X → wEs cf sub env es m Q X
  | [], env, m, Q, X, h => h
  | e :: es, env, m, Q, X, h => wEs_cons (wR_mono (wpE_ok e env m _ X h) fun x m1 h => wpEs_ok es env m1 _ X h)
theorem wpO_ok : ∀ (e : Option E) (env : Env) (m : Mem) (Q : Option Int → Mem → Prop) (X : Nat → D → Mem → Prop), wpO cf sub e env m Q X → wO cf sub env e m Q X
  | none, env, m, Q, X, h => h
  | some e, env, m, Q, X, h => wO_some (wpE_ok e env m _ X h)
theorem wpI_ok : ∀ (i : It) (env : Env) (m : Mem) (Q : List D → Mem → Prop) (X : Nat → D → Mem → Prop), wpI cf sub i env m Q X → wI cf sub env i m Q X
  | .of e, env, m, Q, X, h => wI_of (wpE_ok e env m _ X h)
  | .range1 e, env, m, Q, X, h => wI_range1 (wpE_ok e env m _ X h)
  | .enum e, env, m, Q, X, h => wI_enum (wpE_ok e env m _ X h)
  | .range2 _ _, env, m, Q, X, h => h
  | .zip _ _, env, m, Q, X, h => h
  | .rev _, env, m, Q, X, h => h
  | .items _, env, m, Q, X, h => h
  | .values _, env, m, Q, X, h => h
end
end
/-! ### statements -/
section
variable (cf : CFn) (sub : SFn)
mutual
def wpS : S → Env → Mem → En → Prop
  | .set i e, env, m, Z => wpE cf sub e env m (fun d m1 => Z.nx (env.set i (some (.val d))) m1) (fun c a m => Z.ex c a env m)
  | .own i e, env, m, Z => wpE cf sub e env m (fun d m1 => Z.nx (env.set i (some (.own d))) m1) (fun c a m => Z.ex c a env m)
  | .new i e, env, m, Z => wpE cf sub e env m (fun d m1 => ∃ ds, d = .lst ds ∧ Z.nx (env.set i (some (.val (.ref m1.length)))) (m1 ++ [.lst ds])) (fun c a m => Z.ex c a env m)
  | .frz i, env, m, Z => ∃ ds, ownL env i = some ds ∧ Z.nx (env.set i (some (.val (.lst ds)))) m
  | .unp is e, env, m, Z => wpE cf sub e env m (fun d m1 => ∃ ds, d = .tup ds ∧ ∃ env', putAll is ds env = some env' ∧ Z.nx env' m1) (fun c a m => Z.ex c a env m)
  | .sti o i v, env, m, Z => wpE cf sub v env m (fun y m1 => wpE cf sub o env m1 (fun x m2 => wpE cf sub i env m2 (fun k m3 => ∃ n, x = .ref n ∧ ∃ ds, m3[n]? = some (.lst ds) ∧ ∃ j, k = .int j ∧ ∃ p, ixOf ds.length j = some p ∧ Z.nx env (m3.set n (.lst (ds.set p y)))) (fun c a m => Z.ex c a env m)) (fun c a m => Z.ex c a env m)) (fun c a m => Z.ex c a env m)
  | .app i e, env, m, Z => ∃ ds, ownL env i = some ds ∧ wpE cf sub e env m (fun d m1 => ds.length < LN ∧ Z.nx (env.set i (some (.own (.lst (ds ++ [d]))))) m1) (fun c a m => Z.ex c a env m)
  | .exp e, env, m, Z => wpE cf sub e env m (fun _ m1 => Z.nx env m1) (fun c a m => Z.ex c a env m)
  | .ret e, env, m, Z => wpE cf sub e env m (fun d m1 => Z.rt d m1) (fun c a m => Z.ex c a env m)
  | .raise c e, env, m, Z => wpE cf sub e env m (fun d m1 => Z.ex c d env m1) (fun c a m => Z.ex c a env m)
  | .ife c a b, env, m, Z => wpE cf sub c env m (fun x m1 => ∃ i, x = .bl i ∧ (i = true → wpSs a env m1 Z) ∧ (i = false → wpSs b env m1 Z)) (fun c a m => Z.ex c a env m)
  | .for t it b, env, m, Z => wpI cf sub it env m (fun ds m1 => LoopW (forGo (fun env m => execSs cf sub env b m) t ds env m1) Z) (fun c a m => Z.ex c a env m)
  | .try1 b c i h, env, m, Z => wpSs b env m { Z with ex := fun k act env' m1 => sub k (some k) = true ∧ (sub k (some c) = true → wpSs h (env'.set i (some (.exn k act))) m1 { nx := fun env'' m2 => noExn (env''.set i none) = true ∧ Z.nx (env''.set i none) m2, rt := fun _ _ => False }) ∧ (sub k (some c) = false → Z.ex k act env' m1) }
  | .pass, env, m, Z => Z.nx env m
  | .cont, env, m, Z => Z.ct env m
  | s, env, m, Z => wS cf sub env s m Z
def wpSs : List S → Env → Mem → En → Prop
  | [], env, m, Z => Z.nx env m
  | s :: ss, env, m, Z => wpS s env m { Z with nx := fun env' m' => wpSs ss env' m' Z }
end
end
section
variable {cf : CFn} {sub : SFn}
theorem wS_mono {s : S} {env : Env} {m : Mem} {Z Z' : En} (h : wS cf sub env s m Z) (h1 : ∀ env m, Z.nx env m → Z'.nx env m) (h2 : ∀ d m, Z.rt d m → Z'.rt d m) (h3 : ∀ env m, Z.ct env m → Z'.ct env m) (h4 : ∀ c a env m, Z.ex c a env m → Z'.ex c a env m) : wS cf sub env s m Z' := wRS_mono h h1 h2 h3 h4
mutual
theorem wpS_ok : ∀ (s : S) (env : Env) (m : Mem) (Z : En), wpS cf sub s env m Z → wS cf sub env s m Z
  | .set i e, env, m, Z, h => wS_set (wpE_ok e env m _ _ h)
  | .own i e, env, m, Z, h => wS_own (wpE_ok e env m _ _ h)
  | .new i e, env, m, Z, h => wS_new (wpE_ok e env m _ _ h)
  | .frz i, env, m, Z, ⟨ds, e, h⟩ => wS_frz e h
  | .unp is e, env, m, Z, h => wS_unp (wR_mono (wpE_ok e env m _ _ h) fun d m1 ⟨ds, e1, env', e2, h⟩ => ⟨ds, env', e1, e2, h⟩)
  | .sti o i v, env, m, Z, h => wS_sti (wR_mono (wpE_ok v env m _ _ h) fun y m1 h => wR_mono (wpE_ok o env m1 _ _ h) fun x m2 h => wR_mono (wpE_ok i env m2 _ _ h) fun k m3 ⟨n, e1, ds, e2, j, e3, p, e4, h⟩ => ⟨n, ds, j, p, e1, e2, e3, e4, h⟩)
  | .app i e, env, m, Z, ⟨ds, eo, h⟩ => wS_app eo (wpE_ok e env m _ _ h)
  | .exp e, env, m, Z, h => wS_exp (wpE_ok e env m _ _ h)
  | .ret e, env, m, Z, h => wS_ret (wpE_ok e env m _ _ h)
  | .raise c e, env, m, Z, h => wS_raise (wpE_ok e env m _ _ h)
  | .ife c a b, env, m, Z, h => wS_ife (wR_mono (wpE_ok c env m _ _ h) fun x m1 ⟨i, e, h1, h2⟩ => ⟨i, e, fun hi => wpSs_ok a env m1 Z (h1 hi), fun hi => wpSs_ok b env m1 Z (h2 hi)⟩)
  | .for t it b, env, m, Z, h => wS_for (wR_mono (wpI_ok it env m _ _ h) fun ds m1 h => h.get)
  | .try1 b c i hd, env, m, Z, h => wS_try1 (wRS_mono (wpSs_ok b env m _ h) (fun _ _ h => h) (fun _ _ h => h) (fun _ _ h => h) fun k act env' m1 ⟨h1, h2, h3⟩ => ⟨h1, fun hk => wpSs_ok hd _ m1 _ (h2 hk), h3⟩)
  | .pass, env, m, Z, h => h
  | .cont, env, m, Z, h => h
  | .unps _ _ _ _, _, _, _, h => h
  | .sto _ _ _, _, _, _, h => h
  | .ext _ _, _, _, _, h => h
  | .rev _, _, _, _, h => h
  | .rem _ _, _, _, _, h => h
  | .sda _ _ _, _, _, _, h => h
  | .appc _ _, _, _, _, h => h
  | .fld _ _ _, _, _, _, h => h
  | .aug _ _ _, _, _, _, h => h
  | .wh _ _ _, _, _, _, h => h
theorem wpSs_ok : ∀ (ss : List S) (env : Env) (m : Mem) (Z : En), wpSs cf sub ss env m Z → wSs cf sub env ss m Z
  | [], env, m, Z, h => h
  | s :: ss, env, m, Z, h => wSs_cons (wRS_mono (wpS_ok s env m _ h) (fun env' m' h => wpSs_ok ss env' m' Z h) (fun _ _ h => h) (fun _ _ h => h) fun _ _ _ _ h => h)
end
/-- a function's answer, by what it computes to -/
theorem fn_go {P : Nat → Option Fn} {k f : Nat} {fn : Fn} {ds : List D} {m : Mem} {Q : D → Mem → Prop} {X : Nat → D → Mem → Prop} (h : P f = some fn) (hl : ds.length = fn.np)
    (hb : ∀ cf : CFn, cf = callN P sub k → wpSs cf sub fn.body (startE ds fn.ns) m { nx := fun _ m1 => Q .non m1, rt := Q, ex := fun c a _ m1 => X c a m1 }) : wR (callN P sub (k + 1) f ds m) Q X :=
  fn_wR h hl (wpSs_ok _ _ _ _ (hb _ rfl))
theorem fn_is {P : Nat → Option Fn} {k f : Nat} {fn : Fn} {ds : List D} {m m' : Mem} {d : D} (h : P f = some fn) (hl : ds.length = fn.np)
    (hb : ∀ cf : CFn, cf = callN P sub k → wpSs cf sub fn.body (startE ds fn.ns) m { nx := fun _ m1 => D.non = d ∧ m1 = m', rt := fun x m1 => x = d ∧ m1 = m', ex := fun _ _ _ _ => False }) : callN P sub (k + 1) f ds m = .ok d m' := by
  have h2 : wR (callN P sub (k + 1) f ds m) (fun x m1 => x = d ∧ m1 = m') noXX := fn_go h hl hb
  revert h2
  cases callN P sub (k + 1) f ds m with
  | ok a m1 => rintro ⟨rfl, rfl⟩; rfl
  | exc c a m1 => exact fun h => h.elim
  | bad => exact fun h => h.elim
theorem fn_raises {P : Nat → Option Fn} {k f : Nat} {fn : Fn} {ds : List D} {m m' : Mem} {d : D} {c : Nat} (h : P f = some fn) (hl : ds.length = fn.np)
    (hb : ∀ cf : CFn, cf = callN P sub k → wpSs cf sub fn.body (startE ds fn.ns) m { nx := fun _ m1 => False, rt := fun x m1 => False, ex := fun k a _ m1 => k = c ∧ a = d ∧ m1 = m' }) : callN P sub (k + 1) f ds m = .exc c d m' := by
  have h2 : wR (callN P sub (k + 1) f ds m) (fun _ _ => False) (fun k a m1 => k = c ∧ a = d ∧ m1 = m') := fn_go h hl hb
  revert h2
  cases callN P sub (k + 1) f ds m with
  | ok a m1 => exact fun h => h.elim
  | exc c a m1 => rintro ⟨rfl, rfl, rfl⟩; rfl
  | bad => exact fun h => h.elim
/-- an expression's value -/
theorem ev_is {e : E} {env : Env} {m m' : Mem} {d : D} (h : wpE cf sub e env m (fun x m1 => x = d ∧ m1 = m') noXX) : evalE cf sub env e m = .ok d m' := ev_of (wpE_ok _ _ _ _ _ h)
theorem peek_pla {m : Mem} {d : D} (h : pla d = true) : peek m d = d := by
  cases d <;> first | rfl | cases h
theorem peekR_pla {m : Mem} {d : D} (h : pla d = true) : peekR m d = d := by
  cases d <;> first | rfl | cases h
end
end Mini
namespace Mini
theorem small_c {c i : Int} (h : small c = true) : (small i || small c) = true := by rw [h, Bool.or_true]
theorem small_d {c i : Int} (h : small c = true) : (small c || small i) = true := by rw [h, Bool.true_or]
end Mini
namespace Mini
theorem lcw_mapL {α : Type} {step : D → Mem → R (Option D)} {m : Mem} {Q : List D → Mem → Prop} {ds : List D} (xs : List α) (f g : α → D) (e : ds = xs.map f) (hd : ∀ x ∈ xs, step (f x) m = .ok (some (g x)) m) (h : Q (xs.map g) m) : LcW step ds m Q := by
  subst e
  have : ∀ (xs : List α), (∀ x ∈ xs, step (f x) m = .ok (some (g x)) m) → lcGo step (xs.map f) m = .ok (xs.map g) m := by
    intro xs
    induction xs with
    | nil => intro _; rfl
    | cons x xs ih =>
      intro hd
      simp only [List.map_cons, lcGo]
      rw [hd x (List.mem_cons_self ..), R.bind_ok, ih fun y my => hd y (List.mem_cons_of_mem _ my)]
      rfl
  exact ⟨_, _, this xs hd, h⟩
/-- .. with an invariant over the store -/
theorem lcw_inv {step : D → Mem → R (Option D)} {m : Mem} {Q : List D → Mem → Prop} {ds : List D} (I : Nat → List D → Mem → Prop) (h0 : I 0 [] m) (hs : ∀ i d acc m, i < ds.length → ds[i]? = some d → I i acc m → ∃ o m', step d m = .ok o m' ∧ I (i + 1) (acc ++ (match o with | some x => [x] | none => [])) m')
    (hq : ∀ rs m', I ds.length rs m' → Q rs m') : LcW step ds m Q := by
  have := wL_inv (step := step) (Q := Q) I ds 0 m [] h0 (fun i d acc m hi hd hI => by
    rw [Nat.zero_add] at hI ⊢
    exact hs i d acc m hi hd hI) (fun rs m' h => hq rs m' (by rw [Nat.zero_add] at h; exact h))
  exact ⟨this⟩
theorem allBl_map {α : Type} (p : α → Bool) : ∀ xs : List α, allBl (xs.map fun x => .bl (p x)) = some (xs.all p)
  | [] => rfl
  | x :: xs => by
    simp only [List.map_cons, allBl, List.all_cons]
    cases h : p x with
    | true => simp [allBl_map p xs]
    | false =>
      have : (List.map (fun x => D.bl (p x)) xs).all (fun | .bl _ => true | _ => false) = true := by simp
      simp [this]
theorem all_ok {α : Type} {p : α → Bool} {xs : List α} {Q : D → Prop} (h : Q (.bl (xs.all p))) : ∃ z, biD .all [.lst (xs.map fun x => .bl (p x))] = some z ∧ Q z :=
  ⟨_, by show (allBl _).map D.bl = _; rw [allBl_map]; rfl, h⟩
theorem loop_is {body : Env → Mem → RS} {t : Tg} {ds : List D} {env : Env} {m : Mem} {Z : En} (I : Nat → Env → Mem → Prop) (h0 : I 0 env m)
    (hs : ∀ i d env m, ds[i]? = some d → I i env m → ∃ env', bindT t d env = some env' ∧ wRS (body env' m) { nx := I (i + 1), rt := Z.rt, ct := I (i + 1), ex := Z.ex }) (hq : ∀ env m, I ds.length env m → Z.nx env m) : LoopW (forGo body t ds env m) Z :=
  ⟨for_inv I ds 0 env m h0 (fun i d env m hd hI => by rw [Nat.zero_add] at hI ⊢; exact hs i d env m hd hI) (fun env m h => hq env m (by rw [Nat.zero_add] at h; exact h))⟩
end Mini
namespace Mini
theorem wR_mono2 {α : Type} {r : R α} {Q Q' : α → Mem → Prop} {X X' : Nat → D → Mem → Prop} (h : wR r Q X) (k : ∀ a m, Q a m → Q' a m) (x : ∀ c a m, X c a m → X' c a m) : wR r Q' X' := by
  cases r with
  | ok a m => exact k a m h
  | exc c a m => exact x c a m h
  | bad => exact h
end Mini
namespace Mini
theorem step_w {cf : CFn} {sub : SFn} {e : E} {t : Tg} {env env' : Env} {d : D} {m : Mem} {Q : D → Mem → Prop} (hb : bindT t d env = some env') (h : wpE cf sub e env' m Q noXX) : ∃ x m', lcStep (fun env m => evalE cf sub env e m) none t env d m = .ok (some x) m' ∧ Q x m' := by
  have h2 := wpE_ok e env' m Q noXX h
  unfold wE at h2
  unfold lcStep
  rw [hb]
  dsimp only
  revert h2
  cases evalE cf sub env' e m with
  | ok x m' => exact fun h => ⟨x, m', rfl, h⟩
  | exc c a m' => exact fun h => h.elim
  | bad => exact fun h => h.elim
end Mini
namespace Mini
theorem call_w2 {r : R D} {Q Q' : D → Mem → Prop} {X X' : Nat → D → Mem → Prop} (e : wR r Q' X') (h : ∀ d m, Q' d m → Q d m) (x : ∀ c a m, X' c a m → X c a m) : CallW r Q X := ⟨wR_mono2 e h x⟩
theorem call_wn {r : R D} {Q Q' : D → Mem → Prop} {X : Nat → D → Mem → Prop} (e : wR r Q' noXX) (h : ∀ d m, Q' d m → Q d m) : CallW r Q X := ⟨wR_mono2 e h fun _ _ _ h => h.elim⟩
end Mini

/-! Figures, slices, places: plain facts about the small language's data. -/
namespace Mini
open PySem
/-! ### figures -/
theorem figs_lt {n : Nat} (h : n < 10) : figs n = [48 + n] := by
  unfold figs
  rw [Nat.toDigits_of_lt_base h]
  have : n = 0 ∨ n = 1 ∨ n = 2 ∨ n = 3 ∨ n = 4 ∨ n = 5 ∨ n = 6 ∨ n = 7 ∨ n = 8 ∨ n = 9 := by omega
  rcases this with rfl | rfl | rfl | rfl | rfl | rfl | rfl | rfl | rfl | rfl <;> rfl
theorem digit_nat {n : Nat} (h : n < 10) : (Nat.digitChar n).toNat = 48 + n := by
  have : n = 0 ∨ n = 1 ∨ n = 2 ∨ n = 3 ∨ n = 4 ∨ n = 5 ∨ n = 6 ∨ n = 7 ∨ n = 8 ∨ n = 9 := by omega
  rcases this with rfl | rfl | rfl | rfl | rfl | rfl | rfl | rfl | rfl | rfl <;> rfl
theorem figs_ge {n : Nat} (h : 10 ≤ n) : figs n = figs (n / 10) ++ [48 + n % 10] := by
  unfold figs
  rw [Nat.toDigits_of_base_le (by omega) h, List.map_append, List.map_singleton, digit_nat (by omega)]
theorem figs_ind {P : Nat → Prop} (h0 : ∀ n, n < 10 → P n) (h1 : ∀ n, 10 ≤ n → P (n / 10) → P n) (n : Nat) : P n := by
  induction n using Nat.strongRecOn with
  | ind n ih =>
    by_cases h : n < 10
    · exact h0 n h
    · exact h1 n (by omega) (ih (n / 10) (by omega))
theorem figs_dig (n : Nat) : ∀ c ∈ figs n, 48 ≤ c ∧ c ≤ 57 := by
  induction n using figs_ind with
  | h0 n h =>
    rw [figs_lt h]
    intro c hc
    rw [List.mem_singleton.mp hc]; omega
  | h1 n h ih =>
    rw [figs_ge h]
    intro c hc
    rcases List.mem_append.mp hc with z | z
    · exact ih c z
    · rw [List.mem_singleton.mp z]; omega
theorem numOf_app (a : List Nat) (c : Nat) : numOf (a ++ [c]) = 10 * numOf a + ((c : Int) - 48) := by
  unfold numOf
  rw [List.foldl_append]; rfl
theorem numOf_figs (n : Nat) : numOf (figs n) = n := by
  induction n using figs_ind with
  | h0 n h =>
    rw [figs_lt h]
    show (10 : Int) * 0 + (((48 + n : Nat) : Int) - 48) = n
    omega
  | h1 n h ih =>
    rw [figs_ge h, numOf_app, ih]
    omega
theorem figs_ne (n : Nat) : figs n ≠ [] := by
  unfold figs
  intro h
  exact Nat.toDigits_ne_nil (List.map_eq_nil_iff.mp h)
theorem figs_head {n : Nat} (h : n ≠ 0) : ∀ c r, figs n = c :: r → c ≠ 48 := by
  induction n using figs_ind with
  | h0 n h1 =>
    rw [figs_lt h1]
    intro c r e
    cases e; omega
  | h1 n h1 ih =>
    intro c r e
    rw [figs_ge h1] at e
    cases q : figs (n / 10) with
    | nil => exact absurd q (figs_ne _)
    | cons a b =>
      rw [q] at e
      cases e
      exact ih (by omega) _ _ q
theorem figs_len {n k : Nat} (hk : 0 < k) : (figs n).length ≤ k ↔ n < 10 ^ k := by
  unfold figs
  rw [List.length_map]
  exact Nat.length_toDigits_le_iff (by omega) hk
theorem figs_zero : figs 0 = [48] := figs_lt (by omega)
theorem isFig_all {s : List Nat} (h : ∀ c ∈ s, 48 ≤ c ∧ c ≤ 57) : s.all isFig = true := by
  rw [List.all_eq_true]
  intro c hc
  have := h c hc
  simp [isFig, this]
def digL : List Nat := [48, 49, 50, 51, 52, 53, 54, 55, 56, 57]
theorem digL_mem (c : Nat) : digL.contains c = (decide (48 ≤ c) && decide (c ≤ 57)) := by
  rw [Bool.eq_iff_iff]
  simp [digL]
  omega
theorem digL_find {c : Nat} (h : 48 ≤ c ∧ c ≤ 57) : Txt.find ⟨digL.toArray⟩ ⟨[c].toArray⟩ = (c : Int) - 48 := by
  have : c = 48 ∨ c = 49 ∨ c = 50 ∨ c = 51 ∨ c = 52 ∨ c = 53 ∨ c = 54 ∨ c = 55 ∨ c = 56 ∨ c = 57 := by omega
  rcases this with rfl | rfl | rfl | rfl | rfl | rfl | rfl | rfl | rfl | rfl <;> decide +kernel
/-! ### slices and places -/
section
variable {α : Type}
theorem cut_none_none (xs : List α) : cutL xs none none = xs := by simp [cutL, sIx]
theorem cut_take (xs : List α) (n : Nat) : cutL xs none (some (n : Int)) = xs.take n := by
  have : ¬ ((n : Int) < 0) := by omega
  simp only [cutL, sIx, this, if_false, Int.toNat_natCast, List.drop_zero, Nat.sub_zero]
  by_cases h : n ≤ xs.length
  · rw [Nat.min_eq_left h]
  · rw [Nat.min_eq_right (by omega), List.take_length, List.take_of_length_le (by omega)]
theorem cut_drop (xs : List α) (n : Nat) : cutL xs (some (n : Int)) none = xs.drop n := by
  have : ¬ ((n : Int) < 0) := by omega
  simp only [cutL, sIx, this, if_false, Int.toNat_natCast]
  by_cases h : n ≤ xs.length
  · rw [Nat.min_eq_left h, List.take_of_length_le (by simp)]
  · rw [Nat.min_eq_right (by omega), List.drop_length, List.drop_of_length_le (by omega)]; simp
/-- the middle, without the first and the last -/
theorem cut_mid (xs : List α) : cutL xs (some 1) (some (-1)) = (xs.drop 1).take (xs.length - 2) := by
  have e1 : sIx xs.length 0 (some 1) = min 1 xs.length := by simp [sIx]
  have e2 : sIx xs.length xs.length (some (-1)) = xs.length - 1 := by
    simp only [sIx]
    rw [if_pos (by omega)]
    omega
  unfold cutL
  rw [e1, e2]
  cases xs with
  | nil => simp
  | cons a r =>
    have : min 1 (a :: r).length = 1 := by rw [List.length_cons]; omega
    rw [this]
    congr 1
theorem at_nat {xs : List α} {n : Nat} (hl : xs.length ≤ LN) (h : n < xs.length) : atD xs (n : Int) = xs[n]? := by
  unfold atD
  rw [if_pos hl]
  unfold ixOf
  rw [if_pos (by omega), if_pos (by omega)]
  rfl
theorem at_last {xs : List α} (hl : xs.length ≤ LN) (h : xs ≠ []) : atD xs (-1) = xs.getLast? := by
  have : 0 < xs.length := List.length_pos_iff.mpr h
  unfold atD
  rw [if_pos hl]
  unfold ixOf
  rw [if_neg (by omega), if_pos (by omega)]
  show xs[(-1 + (xs.length : Int)).toNat]? = _
  rw [List.getLast?_eq_getElem?]
  congr 1
  omega
end
end Mini
namespace Mini
open PySem
theorem sub_hd {c : Nat} {r : List Nat} (h : r.length < LN) : subD (.str (c :: r)) (.int 0) = some (.str [c]) := by
  show (atD (c :: r) 0).map _ = _
  rw [show (0 : Int) = ((0 : Nat) : Int) from rfl, at_nat (by rw [List.length_cons]; omega) (by simp)]
  rfl
theorem sub_last {s : List Nat} {c : Nat} (h : s.length ≤ LN) (hl : s.getLast? = some c) : subD (.str s) (.int (-1)) = some (.str [c]) := by
  have : s ≠ [] := fun e => by rw [e] at hl; cases hl
  show (atD s (-1)).map _ = _
  rw [at_last h this, hl]; rfl
theorem slc_take {s : List Nat} {n : Nat} (h : s.length ≤ LN) : slcD none (some (n : Int)) (.str s) = some (.str (s.take n)) := by
  show (if s.length ≤ LN then some (D.str (cutL s none (some (n : Int)))) else none) = _
  rw [if_pos h, cut_take]
theorem slc_drop {s : List Nat} {n : Nat} (h : s.length ≤ LN) : slcD (some (n : Int)) none (.str s) = some (.str (s.drop n)) := by
  show (if s.length ≤ LN then some (D.str (cutL s (some (n : Int)) none)) else none) = _
  rw [if_pos h, cut_drop]
theorem slc_mid {s : List Nat} (h : s.length ≤ LN) : slcD (some 1) (some (-1)) (.str s) = some (.str ((s.drop 1).take (s.length - 2))) := by
  show (if s.length ≤ LN then some (D.str (cutL s (some 1) (some (-1)))) else none) = _
  rw [if_pos h, cut_mid]
end Mini


namespace LW
open PySem PySem.Spec PyProof.Rows L2 Mini
def top (i : Nat) : Stmt := PySem.Challenge.pw_shardask_k70_values_written.main.body.getD i (.Pass ⟨0, 0, 0, 0⟩)
def f0 : FnS := ⟨⟨("is_letters", none), "is_letters", "is_letters", defArgs (top 6), defBody (top 6), defScope (top 6), [], []⟩, ["thing", "least"], ["thing", "least", "letter"], ⟨2, 3, [.ife (.or (.not (.isi (.bvar 0) .str)) (.not (.chain .le .le (.bvar 1) (.bi .len [.bvar 0]) (.glob (.int 8))))) [.ret (.lit (.bl false))] [], .ret (.bi .all [.lc (.chain .le .le (.lit (.str [97])) (.bvar 2) (.lit (.str [122]))) (.nm 2) (.of (.var 0)) none])]⟩, []⟩
def f1 : FnS := ⟨⟨("is_figures", none), "is_figures", "is_figures", defArgs (top 10), defBody (top 10), defScope (top 10), [], []⟩, ["word"], ["word", "sign"], ⟨1, 2, [.ife (.or (.not (.chain .le .le (.lit (.int 1)) (.bi .len [.bvar 0]) (.glob (.int 60)))) (.not (.bi .all [.lc (.op .mem (.bvar 1) (.glob (.str [48, 49, 50, 51, 52, 53, 54, 55, 56, 57]))) (.nm 1) (.of (.var 0)) none]))) [.ret (.lit (.bl false))] [], .ret (.or (.op .eq (.bvar 0) (.lit (.str [48]))) (.op .ne (.sub (.bvar 0) (.lit (.int 0))) (.lit (.str [48]))))]⟩, []⟩
def f2 : FnS := ⟨⟨("number_in", none), "number_in", "number_in", defArgs (top 11), defBody (top 11), defScope (top 11), [], []⟩, ["word"], ["word"], ⟨1, 1, [.ife (.and (.op .eq (.slc (.bvar 0) none (some (.lit (.int 1)))) (.lit (.str [45]))) (.and (.op .ne (.bvar 0) (.lit (.str [45, 48]))) (.call 1 [.slc (.bvar 0) (some (.lit (.int 1))) none] []))) [.ret (.neg (.bi .int [.slc (.bvar 0) (some (.lit (.int 1))) none]))] [], .ife (.call 1 [.var 0] []) [.ret (.bi .int [.bvar 0])] [], .raise 2 (.lit .non)]⟩, []⟩
def f3 : FnS := ⟨⟨("read_value", none), "read_value", "read_value", defArgs (top 12), defBody (top 12), defScope (top 12), [], []⟩, ["word"], ["word"], ⟨1, 1, [.ife (.not (.isi (.bvar 0) .str)) [.raise 2 (.lit .non)] [], .ife (.op .eq (.slc (.bvar 0) none (some (.lit (.int 1)))) (.lit (.str [39]))) [.ife (.or (.op .lt (.bi .len [.bvar 0]) (.lit (.int 2))) (.or (.op .ne (.sub (.bvar 0) (.neg (.lit (.int 1)))) (.lit (.str [39]))) (.not (.call 0 [.slc (.bvar 0) (some (.lit (.int 1))) (some (.neg (.lit (.int 1)))), .lit (.int 0)] [])))) [.raise 2 (.lit .non)] [], .ret (.slc (.bvar 0) (some (.lit (.int 1))) (some (.neg (.lit (.int 1)))))] [], .ret (.call 2 [.var 0] [])]⟩, []⟩
def f4 : FnS := ⟨⟨("shown_value", none), "shown_value", "shown_value", defArgs (top 14), defBody (top 14), defScope (top 14), [], []⟩, ["value"], ["value"], ⟨1, 1, [.ife (.isi (.bvar 0) .str) [.ret (.op .add (.op .add (.lit (.str [39])) (.bvar 0)) (.lit (.str [39])))] [], .ret (.bi .str [.bvar 0])]⟩, []⟩
def f5 : FnS := ⟨⟨("shown_rows", none), "shown_rows", "shown_rows", defArgs (top 15), defBody (top 15), defScope (top 15), [], []⟩, ["rows"], ["rows", "row", "value"], ⟨1, 3, [.ife (.op .eq (.bi .len [.bvar 0]) (.lit (.int 0))) [.ret (.lit (.str [45]))] [], .ret (.mt .join (.lit (.str [59, 32])) [.lc (.mt .join (.lit (.str [32])) [.lc (.call 4 [.var 2] []) (.nm 2) (.of (.var 1)) none]) (.nm 1) (.of (.var 0)) none])]⟩, []⟩
def f6 : FnS := ⟨⟨("_law_seed", none), "_law_seed", "_law_seed", defArgs (top 17), defBody (top 17), defScope (top 17), [], []⟩, ["_law_script"], ["_law_script", "_law_seed_here", "_law_k", "_law_cell"], ⟨1, 4, [.set 1 (.lit (.int 7)), .for (.tp [2, 3]) (.enum (.var 0)) [.set 1 (.op .mod (.op .add (.op .add (.op .add (.op .mul (.bvar 1) (.lit (.int 7368787))) (.op .mod (.bvar 3) (.op .pow (.lit (.int 10)) (.lit (.int 30))))) (.op .mul (.lit (.int 13)) (.bvar 2))) (.lit (.int 11))) (.lit (.int 2305843009213693951)))], .ret (.var 1)]⟩, []⟩
def f7 : FnS := ⟨⟨("_law_next", none), "_law_next", "_law_next", defArgs (top 18), defBody (top 18), defScope (top 18), [], []⟩, ["_law_state", "_law_many"], ["_law_state", "_law_many"], ⟨2, 2, [.sti (.var 0) (.lit (.int 0)) (.op .mod (.op .add (.op .mul (.sub (.bvar 0) (.lit (.int 0))) (.lit (.int 1181783497276652981))) (.lit (.int 12345678910987))) (.lit (.int 2305843009213693951))), .ret (.op .mod (.op .fdiv (.sub (.bvar 0) (.lit (.int 0))) (.lit (.int 65537))) (.bvar 1))]⟩, []⟩
def f8 : FnS := ⟨⟨("_law_great", none), "_law_great", "_law_great", defArgs (top 19), defBody (top 19), defScope (top 19), [], []⟩, ["_law_state"], ["_law_state", "_law_number", "_law_k"], ⟨1, 3, [.set 1 (.lit (.int 0)), .for (.nm 2) (.range1 (.lit (.int 4))) [.set 1 (.op .add (.op .mul (.bvar 1) (.op .pow (.lit (.int 10)) (.lit (.int 15)))) (.call 7 [.var 0, .op .pow (.lit (.int 10)) (.lit (.int 15))] []))], .ret (.sub (.lst [.var 1, .op .sub (.lit (.int 0)) (.bvar 1)]) (.call 7 [.var 0, .lit (.int 2)] []))]⟩, []⟩
def f9 : FnS := ⟨⟨("_law_value", none), "_law_value", "_law_value", defArgs (top 20), defBody (top 20), defScope (top 20), [], []⟩, ["_law_state", "_law_kind"], ["_law_state", "_law_kind", "_law_way", "_law_word", "_law_k"], ⟨2, 5, [.set 2 (.call 7 [.var 0, .lit (.int 10)] []), .ife (.op .eq (.bvar 1) (.lit (.str [110, 117, 109, 98, 101, 114]))) [.ret (.sub (.lst [.op .sub (.call 7 [.var 0, .lit (.int 4)] []) (.lit (.int 1)), .call 8 [.var 0] []]) (.bi .int [.op .eq (.bvar 2) (.lit (.int 9))]))] [], .ife (.op .lt (.bvar 2) (.lit (.int 8))) [.ret (.sub (.lst [.lit (.str []), .lit (.str [97]), .lit (.str [98]), .lit (.str [97, 98])]) (.op .mod (.bvar 2) (.lit (.int 4))))] [], .set 3 (.lit (.str [])), .for (.nm 4) (.range1 (.call 7 [.var 0, .lit (.int 9)] [])) [.set 3 (.op .add (.bvar 3) (.sub (.lit (.str [97, 98, 99, 100, 101, 102, 103, 104, 105, 106, 107, 108, 109, 110, 111, 112, 113, 114, 115, 116, 117, 118, 119, 120, 121, 122])) (.call 7 [.var 0, .lit (.int 26)] [])))], .ret (.var 3)]⟩, []⟩
def f10 : FnS := ⟨⟨("_law_shown_value", none), "_law_shown_value", "_law_shown_value", defArgs (top 21), defBody (top 21), defScope (top 21), [], []⟩, ["_law_value_here"], ["_law_value_here"], ⟨1, 1, [.ife (.isi (.bvar 0) .str) [.ret (.op .add (.op .add (.lit (.str [39])) (.bvar 0)) (.lit (.str [39])))] [], .ret (.bi .str [.bvar 0])]⟩, []⟩
def f11 : FnS := ⟨⟨("_law_shown_rows", none), "_law_shown_rows", "_law_shown_rows", defArgs (top 25), defBody (top 25), defScope (top 25), [], []⟩, ["_law_rows"], ["_law_rows", "_law_row", "_law_value_here"], ⟨1, 3, [.ife (.op .eq (.bvar 0) (.lst [])) [.ret (.lit (.str [45]))] [], .ret (.mt .join (.lit (.str [59, 32])) [.lc (.mt .join (.lit (.str [32])) [.lc (.call 10 [.var 2] []) (.nm 2) (.of (.var 1)) none]) (.nm 1) (.of (.var 0)) none])]⟩, []⟩
def f12 : FnS := ⟨⟨("_law_looked", none), "_law_looked", "_law_looked", defArgs (top 26), defBody (top 26), defScope (top 26), [], []⟩, ["_law_word"], ["_law_word", "_law_letters", "_law_figures", "_law_number", "_law_sign"], ⟨1, 5, [.ife (.and (.op .gt (.bi .len [.bvar 0]) (.lit (.int 1))) (.and (.op .eq (.sub (.bvar 0) (.lit (.int 0))) (.lit (.str [39]))) (.op .eq (.sub (.bvar 0) (.neg (.lit (.int 1)))) (.lit (.str [39]))))) [.set 1 (.slc (.bvar 0) (some (.lit (.int 1))) (some (.neg (.lit (.int 1))))), .ife (.and (.op .le (.bi .len [.bvar 1]) (.lit (.int 8))) (.bi .all [.lc (.op .mem (.bvar 4) (.lit (.str [97, 98, 99, 100, 101, 102, 103, 104, 105, 106, 107, 108, 109, 110, 111, 112, 113, 114, 115, 116, 117, 118, 119, 120, 121, 122]))) (.nm 4) (.of (.var 1)) none])) [.ret (.tup [.lit (.bl true), .var 1])] [], .ret (.tup [.lit (.bl false), .lit (.int 0)])] [], .set 2 (.slc (.bvar 0) (some (.bi .int [.op .eq (.slc (.bvar 0) none (some (.lit (.int 1)))) (.lit (.str [45]))])) none), .ife (.or (.not (.chain .le .le (.lit (.int 1)) (.bi .len [.bvar 2]) (.lit (.int 60)))) (.not (.bi .all [.lc (.op .mem (.bvar 4) (.lit (.str [48, 49, 50, 51, 52, 53, 54, 55, 56, 57]))) (.nm 4) (.of (.var 2)) none]))) [.ret (.tup [.lit (.bl false), .lit (.int 0)])] [], .ife (.and (.op .eq (.sub (.bvar 2) (.lit (.int 0))) (.lit (.str [48]))) (.op .ne (.bvar 0) (.lit (.str [48])))) [.ret (.tup [.lit (.bl false), .lit (.int 0)])] [], .set 3 (.lit (.int 0)), .for (.nm 4) (.of (.var 2)) [.set 3 (.op .add (.op .mul (.lit (.int 10)) (.bvar 3)) (.mt .find (.lit (.str [48, 49, 50, 51, 52, 53, 54, 55, 56, 57])) [.bvar 4]))], .ret (.tup [.lit (.bl true), .sub (.lst [.var 3, .neg (.var 3)]) (.bi .int [.op .eq (.sub (.bvar 0) (.lit (.int 0))) (.lit (.str [45]))])])]⟩, []⟩
def f13 : FnS := ⟨⟨("_law_read", none), "_law_read", "_law_read", defArgs (top 27), defBody (top 27), defScope (top 27), [], []⟩, ["_law_word"], ["_law_word", "_law_kinds", "_law_found", "e"], ⟨1, 4, [.set 1 (.lst []), .set 2 (.lit .non), .try1 [.set 2 (.call 3 [.var 0] [])] 0 3 [.set 1 (.lst [.isx 3 (some 2), .isx 3 none, .isx 3 (some 1), .actx 3])], .ret (.tup [.var 1, .var 2])]⟩, []⟩
def f14 : FnS := ⟨⟨("_law_same", none), "_law_same", "_law_same", defArgs (top 28), defBody (top 28), defScope (top 28), [], []⟩, ["_law_one", "_law_other"], ["_law_one", "_law_other"], ⟨2, 2, [.ret (.and (.op .eq (.isi (.bvar 0) .str) (.isi (.bvar 1) .str)) (.and (.not (.isi (.bvar 0) .bool)) (.op .eq (.bvar 0) (.bvar 1))))]⟩, []⟩
def f15 : FnS := ⟨⟨("_law_right", none), "_law_right", "_law_right", defArgs (top 29), defBody (top 29), defScope (top 29), [], []⟩, ["_law_word"], ["_law_word", "_law_good", "_law_value_here", "_law_kinds", "_law_found"], ⟨1, 5, [.unp [1, 2] (.call 12 [.var 0] []), .unp [3, 4] (.call 13 [.var 0] []), .ife (.var 1) [.ret (.and (.op .eq (.bvar 3) (.lst [])) (.call 14 [.var 4, .var 2] []))] [], .ret (.op .eq (.bvar 3) (.lst [.lit (.bl true), .lit (.bl true), .lit (.bl false), .lit .non]))]⟩, []⟩
def f16 : FnS := ⟨⟨("_law_spoilt", none), "_law_spoilt", "_law_spoilt", defArgs (top 30), defBody (top 30), defScope (top 30), [], []⟩, ["_law_state", "_law_word"], ["_law_state", "_law_word", "_law_at", "_law_sign", "_law_way"], ⟨2, 5, [.set 2 (.call 7 [.var 0, .op .add (.bi .len [.bvar 1]) (.lit (.int 1))] []), .set 3 (.sub (.lit (.str [48, 49, 50, 51, 45, 43, 39, 97, 32, 122, 65, 58, 59, 41, 10, 95])) (.call 7 [.var 0, .lit (.int 16)] [])), .set 4 (.call 7 [.var 0, .lit (.int 4)] []), .ife (.op .eq (.bvar 4) (.lit (.int 0))) [.ret (.op .add (.op .add (.slc (.bvar 1) none (some (.var 2))) (.bvar 3)) (.slc (.bvar 1) (some (.var 2)) none))] [], .ife (.op .eq (.bvar 4) (.lit (.int 1))) [.ret (.op .add (.op .add (.slc (.bvar 1) none (some (.var 2))) (.bvar 3)) (.slc (.bvar 1) (some (.op .add (.bvar 2) (.lit (.int 1)))) none))] [], .ife (.op .eq (.bvar 4) (.lit (.int 2))) [.ret (.op .add (.slc (.bvar 1) none (some (.var 2))) (.slc (.bvar 1) (some (.op .add (.bvar 2) (.lit (.int 1)))) none))] [], .ret (.op .add (.slc (.bvar 1) none (some (.var 2))) (.slc (.bvar 1) (some (.bi .max2 [.lit (.int 0), .op .sub (.bvar 2) (.lit (.int 1))])) none))]⟩, []⟩
def f17 : FnS := ⟨⟨("law", none), "law", "law", defArgs (top 31), defBody (top 31), defScope (top 31), [], []⟩, ["_law_script"], ["_law_script", "_law_state", "_law_values", "_law_k", "_law_value_here", "_law_word", "_law_thing", "_law_kinds", "_law_rows", "_law_kind"], ⟨1, 10, [.new 1 (.lst [.call 6 [.var 0] []]), .own 2 (.lst [.lit (.int 0), .lit (.str [])]), .for (.nm 3) (.range1 (.lit (.int 8))) [.app 2 (.call 9 [.var 1, .sub (.lst [.lit (.str [110, 117, 109, 98, 101, 114]), .lit (.str [119, 111, 114, 100])]) (.call 7 [.var 1, .lit (.int 2)] [])] [])], .frz 2, .for (.nm 4) (.of (.var 2)) [.set 5 (.call 4 [.var 4] []), .ife (.or (.not (.isi (.bvar 5) .str)) (.or (.op .ne (.bvar 5) (.call 10 [.var 4] [])) (.not (.call 15 [.var 5] [])))) [.ret (.lit (.bl false))] [], .ife (.or (.not (.call 14 [.call 3 [.var 5] [], .var 4] [])) (.not (.call 15 [.call 16 [.var 1, .var 5] []] []))) [.ret (.lit (.bl false))] []], .for (.nm 5) (.of (.lst [.lit (.str []), .lit (.str [45]), .lit (.str [45, 48]), .lit (.str [48, 48]), .lit (.str [39]), .lit (.str [39, 32, 39]), .lit (.str [39, 97, 98, 99, 100, 101, 102, 103, 104, 105, 39]), .op .mul (.lit (.str [49])) (.lit (.int 61))])) [.ife (.not (.call 15 [.var 5] [])) [.ret (.lit (.bl false))] []], .for (.nm 6) (.of (.lst [.lit .non, .lit (.int 7), .lst [.lit (.str [49])], .lit (.bl true)])) [.ife (.op .ne (.call 13 [.var 6] []) (.tup [.lst [.lit (.bl true), .lit (.bl true), .lit (.bl false), .lit .non], .lit .non])) [.ret (.lit (.bl false))] []], .set 7 (.lc (.sub (.lst [.lit (.str [110, 117, 109, 98, 101, 114]), .lit (.str [119, 111, 114, 100])]) (.call 7 [.var 1, .lit (.int 2)] [])) (.nm 3) (.range1 (.op .add (.lit (.int 1)) (.call 7 [.var 1, .lit (.int 8)] []))) none), .set 8 (.lc (.bi .tuple [.lc (.call 9 [.var 1, .var 9] []) (.nm 9) (.of (.var 7)) none]) (.nm 3) (.range1 (.op .add (.lit (.int 1)) (.call 7 [.var 1, .lit (.int 3)] []))) none), .ret (.and (.op .eq (.call 5 [.bi .list [.bvar 8]] []) (.call 11 [.var 8] [])) (.op .eq (.call 5 [.lst []] []) (.lit (.str [45]))))]⟩, []⟩
def tb : Tbl where
  fns := [f0, f1, f2, f3, f4, f5, f6, f7, f8, f9, f10, f11, f12, f13, f14, f15, f16, f17]
  cls := ["ShardError", "NoQuestion", "NoWords"]
  con := [("MOST_LETTERS", (.int 8)), ("FIGURES", (.str [48, 49, 50, 51, 52, 53, 54, 55, 56, 57])), ("MOST_FIGURES", (.int 60))]
  fre := ["ValueError", "all", "bool", "enumerate", "int", "isinstance", "len", "list", "max", "range", "str", "tuple"]
  ini := ⟨("ShardError", some "__init__"), "__init__", "ShardError.__init__", defArgs (inClass (top 1) 0), defBody (inClass (top 1) 0), defScope (inClass (top 1) 0), [.non], []⟩
theorem ck_all : tb.fns.all (fnB tb.T) = true := by decide +kernel
theorem bind_all : ∀ s ∈ tb.fns, BindF s := fun s m => plain_bind (List.all_eq_true.mp (show tb.fns.all plainB = true by decide +kernel) s m)
theorem ini_ok : IniOk tb.ini := ⟨rfl, rfl, rfl, rfl, fun env => ⟨_, rfl⟩, fun T kV doc pm an cdv ct us its h1 h2 => match us, its, h1, h2 with | [_, _], [_], _, _ => ⟨_, rfl, rfl⟩⟩
def names : List PySem.Str := (["FIGURES", "MOST_FIGURES", "MOST_LETTERS", "NoQuestion", "NoWords", "ShardError", "__name__", "_law_great", "_law_looked", "_law_next", "_law_read", "_law_right", "_law_same", "_law_seed", "_law_shown", "_law_shown_rows", "_law_shown_sums", "_law_shown_test", "_law_shown_value", "_law_spoilt", "_law_value", "is_figures", "is_letters", "number_in", "read_value", "shown_rows", "shown_value"] : List PySem.Str)
abbrev Row0 : PySem.W.OpenRow := PySem.W.OpenLaw.row PySem.Challenge.rw_shardask_k70_values_written
abbrev hk : PySem.W.Hook := hookM 4 tb
def ob (s : PySem.W.SharedT) : Bool × He.AlD := obM 4 tb (HandSHeadRun.getT s)
theorem ob_eq (s : PySem.W.SharedT) : ob s = hk.obs s.abs := obM_eq (HandSHeadRun.getT_eq s)
theorem run (w : World) : HandSHeadRun.RunEq Row0 (PySem.W.view Row0.prog [31]) hk ob 4000 names w := by
  intro os
  kernel_rfl

local macro_rules | `(tactic| walk_at "s") => `(tactic| first | assumption | omega | (dsimp only [LN] at *; omega) | decide | (refine small_c ?_; decide) | (refine small_d ?_; decide) | (show recv _ _ = true; rfl))
local macro_rules | `(tactic| walk_at "z") => `(tactic| (exfalso; rename_i hz; first | (cases hz; done) | (simp at hz; done)))
local macro_rules | `(tactic| walk_at "y") => `(tactic| (exfalso; rename_i hz; first | (simp only [decide_eq_true_eq, decide_eq_false_iff_not, Bool.not_eq_true', Bool.not_eq_false'] at hz; omega) | (simp at hz; first | omega | (simp_all; done))))
local macro_rules | `(tactic| walk_at "m") => `(tactic| ((conv => whnf); first
  | refine ⟨_, deq_int, ?_⟩ | refine ⟨_, deq_bl, ?_⟩ | refine ⟨_, rfl, ?_⟩
  | (refine And.intro ?a ?b; (case a => (intro hz; walk_at "z")); intro _)
  | (refine And.intro ?a ?b; (case b => (intro hz; walk_at "z")); intro _)
  | (refine And.intro ?a ?b; (case a => (intro hz; walk_at "y")); intro _)
  | (refine And.intro ?a ?b; (case b => (intro hz; walk_at "y")); intro _)
  | (refine And.intro ?a ?b; (case a => walk_at "s"))))
abbrev PP : Nat → Option Fn := Pm tb.P
abbrev sf : SFn := tb.T.sf
theorem P0 : PP 0 = some f0.fn := rfl
theorem P1 : PP 1 = some f1.fn := rfl
theorem P2 : PP 2 = some f2.fn := rfl
theorem P3 : PP 3 = some f3.fn := rfl
theorem P4 : PP 4 = some f4.fn := rfl
theorem P5 : PP 5 = some f5.fn := rfl
theorem P6 : PP 6 = some f6.fn := rfl
theorem P7 : PP 7 = some f7.fn := rfl
theorem P8 : PP 8 = some f8.fn := rfl
theorem P9 : PP 9 = some f9.fn := rfl
theorem P10 : PP 10 = some f10.fn := rfl
theorem P11 : PP 11 = some f11.fn := rfl
theorem P12 : PP 12 = some f12.fn := rfl
theorem P13 : PP 13 = some f13.fn := rfl
theorem P14 : PP 14 = some f14.fn := rfl
theorem P15 : PP 15 = some f15.fn := rfl
theorem P16 : PP 16 = some f16.fn := rfl
theorem P17 : PP 17 = some f17.fn := rfl
/-! ### drawing -/
def nx (s : Int) : Int := (s * 1181783497276652981 + 12345678910987) % 2305843009213693951
def nxv (s many : Int) : Int := nx s / 65537 % many
abbrev stM (s : Int) : Mem := [.lst [.int s]]
theorem L_next {k : Nat} {s many : Int} (h : 0 < many) : callN PP sf (k + 1) 7 [.ref 0, .int many] (stM s) = .ok (.int (nxv s many)) (stM (nx s)) := by
  refine fn_is P7 rfl fun cf hcf => ?_
  repeat walk_at "m"
  exact ⟨rfl, rfl⟩
theorem nxv_rng {s many : Int} (h : 0 < many) : 0 ≤ nxv s many ∧ nxv s many < many := ⟨Int.emod_nonneg _ (by omega), Int.emod_lt_of_pos _ h⟩
/-! ### words -/
def isL (s : List Nat) : Bool := decide (s.length ≤ 8) && s.all fun c => !slt [c] [97] && !slt [122] [c]
theorem L_letters {k : Nat} {s : List Nat} {m : Mem} (h : s.length ≤ 1000) : callN PP sf (k + 1) 0 [.str s, .int 0] m = .ok (.bl (isL s)) m := by
  refine fn_is P0 rfl fun cf hcf => ?_
  by_cases h8 : s.length ≤ 8
  · repeat walk_at "m"
    refine lcw_mapL s (fun c => .str [c]) (fun c => .bl (!slt [c] [97] && !slt [122] [c])) rfl (fun c hc => lcStep_none rfl (ev_is ?_)) ?_
    · repeat walk_at "m"
      refine ⟨fun h1 => ?_, fun h1 => ?_⟩
      · conv => whnf
        exact ⟨by rw [h1]; simp, rfl⟩
      · exact ⟨by rw [h1]; simp, rfl⟩
    · refine ⟨by rw [List.length_map]; dsimp only [LN]; omega, ?_⟩
      conv => whnf
      refine all_ok ⟨?_, rfl⟩
      simp [isL, h8]
  · repeat walk_at "m"
    refine ⟨?_, rfl⟩
    simp [isL, h8]
def isF (w : List Nat) : Bool := decide (1 ≤ w.length ∧ w.length ≤ 60) && (w.all fun c => digL.contains c) && (decide (w = [48]) || decide (w.head? ≠ some 48))
theorem L_figures {k : Nat} {s : List Nat} {m : Mem} (h : s.length ≤ 1000) : callN PP sf (k + 1) 1 [.str s] m = .ok (.bl (isF s)) m := by
  refine fn_is P1 rfl fun cf hcf => ?_
  by_cases h1 : 1 ≤ s.length ∧ s.length ≤ 60
  · obtain ⟨h2, h3⟩ := h1
    repeat walk_at "m"
    refine lcw_mapL s (fun c => .str [c]) (fun c => .bl (digL.contains c)) rfl (fun c hc => lcStep_none rfl (ev_is ?_)) ?_
    · repeat walk_at "m"
      exact ⟨rfl, rfl⟩
    · refine ⟨by rw [List.length_map]; dsimp only [LN]; omega, ?_⟩
      conv => whnf
      refine all_ok ?_
      cases h4 : s.all fun c => digL.contains c with
      | false =>
        repeat walk_at "m"
        exact ⟨by simp only [isF]; rw [h4]; simp, rfl⟩
      | true =>
        repeat walk_at "m"
        refine ⟨fun h5 => ?_, fun h5 => ?_⟩
        · exact ⟨by simp only [isF]; rw [h4, h5]; simp [h2, h3], rfl⟩
        · cases s with
          | nil => simp at h2
          | cons c r =>
            conv => whnf
            refine ⟨_, sub_hd (by rw [List.length_cons] at h; dsimp only [LN]; omega), ?_⟩
            repeat walk_at "m"
            refine ⟨?_, rfl⟩
            have h6 := of_decide_eq_false h5
            simp only [isF, h4, h2, h3, h6]
            simp
  · by_cases h2 : 1 ≤ s.length
    · have h3 : ¬ s.length ≤ 60 := fun h => h1 ⟨h2, h⟩
      repeat walk_at "m"
      exact ⟨by simp [isF, h3], rfl⟩
    · repeat walk_at "m"
      exact ⟨by simp [isF, h2], rfl⟩
/-! ### what a word is read as -/
def mid (w : List Nat) : List Nat := (w.drop 1).take (w.length - 2)
def numR (w : List Nat) : Option D :=
  if w.take 1 = [45] ∧ w ≠ [45, 48] ∧ isF (w.drop 1) = true then some (.int (-(numOf (w.drop 1)))) else if isF w = true then some (.int (numOf w)) else none
def rdv (w : List Nat) : Option D :=
  if w.take 1 = [39] then (if 2 ≤ w.length ∧ w.getLast? = some 39 ∧ isL (mid w) = true then some (.str (mid w)) else none) else numR w
theorem isF_dig {w : List Nat} (h : isF w = true) : 1 ≤ w.length ∧ w.length ≤ 60 ∧ ∀ c ∈ w, 48 ≤ c ∧ c ≤ 57 := by
  simp only [isF, Bool.and_eq_true, decide_eq_true_eq] at h
  refine ⟨h.1.1.1, h.1.1.2, fun c hc => ?_⟩
  have := List.all_eq_true.mp h.1.2 c hc
  rw [digL_mem] at this
  simpa using this
theorem int_of {w : List Nat} (h : isF w = true) : biD .int [.str w] = some (.int (numOf w)) := by
  obtain ⟨h1, h2, h3⟩ := isF_dig h
  show (intStr w).map D.int = _
  unfold intStr
  rw [if_pos ⟨by omega, by omega, isFig_all h3⟩]
  rfl
/-- an answer, or a refusal -/
def orX (o : Option D) (m : Mem) : R D := match o with
  | some d => .ok d m
  | none => .exc 2 .non m
theorem L_number {k : Nat} {s : List Nat} {m : Mem} (h : s.length ≤ 1000) : wR (callN PP sf (k + 2) 2 [.str s] m) (fun d m1 => numR s = some d ∧ m1 = m) (fun c a m1 => numR s = none ∧ c = 2 ∧ a = .non ∧ m1 = m) := by
  refine fn_go P2 rfl fun cf hcf => ?_
  have hz : s.length ≤ LN := by dsimp only [LN]; omega
  have hz1 : (s.drop 1).length ≤ 1000 := by rw [List.length_drop]; omega
  have F0 : ∀ m, cf 1 [.str s] m = .ok (.bl (isF s)) m := fun m => by rw [hcf]; exact L_figures h
  have F1 : ∀ m, cf 1 [.str (s.drop 1)] m = .ok (.bl (isF (s.drop 1))) m := fun m => by rw [hcf]; exact L_figures hz1
  have nomin : ∀ Z : En, (numR s = if isF s = true then some (.int (numOf s)) else none) → Z.rt = (fun d m1 => numR s = some d ∧ m1 = m) → Z.ex = (fun c a _ m1 => numR s = none ∧ c = 2 ∧ a = .non ∧ m1 = m) →
      wpSs cf sf [.ife (.call 1 [.var 0] []) [.ret (.bi .int [.bvar 0])] [], .raise 2 (.lit .non)] [some (.val (.str s))] m Z := fun Z e hr hx => by
    repeat walk_at "m"
    refine call_is (F0 m) ?_
    cases h4 : isF s with
    | true =>
      repeat walk_at "m"
      refine ⟨_, int_of h4, ?_⟩
      show Z.rt _ _
      rw [hr]
      exact ⟨by rw [e, if_pos h4], rfl⟩
    | false =>
      repeat walk_at "m"
      show Z.ex _ _ _ _
      rw [hx]
      exact ⟨by rw [e, h4]; rfl, rfl, rfl, rfl⟩
  by_cases h1 : s.take 1 = [45]
  · by_cases h2 : s = [45, 48]
    · repeat walk_at "m"
      refine ⟨_, slc_take (n := 1) hz, ?_⟩
      repeat walk_at "m"
      refine nomin _ ?_ rfl rfl
      unfold numR
      rw [if_neg fun h => h.2.1 h2]
    · repeat walk_at "m"
      refine ⟨_, slc_take (n := 1) hz, ?_⟩
      repeat walk_at "m"
      refine ⟨_, slc_drop (n := 1) hz, ?_⟩
      conv => whnf
      refine call_is (F1 m) ?_
      cases h4 : isF (s.drop 1) with
      | true =>
        repeat walk_at "m"
        refine ⟨_, slc_drop (n := 1) hz, ?_⟩
        repeat walk_at "m"
        refine ⟨_, int_of h4, ?_⟩
        repeat walk_at "m"
        refine ⟨?_, rfl⟩
        unfold numR
        rw [if_pos ⟨h1, h2, h4⟩]
      | false =>
        repeat walk_at "m"
        refine nomin _ ?_ rfl rfl
        unfold numR
        rw [if_neg fun h => by rw [h4] at h; cases h.2.2]
  · repeat walk_at "m"
    refine ⟨_, slc_take (n := 1) hz, ?_⟩
    repeat walk_at "m"
    refine nomin _ ?_ rfl rfl
    unfold numR
    rw [if_neg fun h => h1 h.1]
theorem mid_len {w : List Nat} : (mid w).length ≤ w.length := by
  simp [mid]; omega
theorem take1 {w : List Nat} {c : Nat} : w.take 1 = [c] ↔ w.head? = some c := by
  cases w with
  | nil => simp
  | cons a r => simp
theorem L_read {k : Nat} {s : List Nat} {m : Mem} (h : s.length ≤ 1000) : wR (callN PP sf (k + 3) 3 [.str s] m) (fun d m1 => rdv s = some d ∧ m1 = m) (fun c a m1 => rdv s = none ∧ c = 2 ∧ a = .non ∧ m1 = m) := by
  refine fn_go P3 rfl fun cf hcf => ?_
  have hz : s.length ≤ LN := by dsimp only [LN]; omega
  have F0 : cf 0 [.str (mid s), .int 0] m = .ok (.bl (isL (mid s))) m := by rw [hcf]; exact L_letters (Nat.le_trans mid_len h)
  have F2 : wR (cf 2 [.str s] m) (fun d m1 => numR s = some d ∧ m1 = m) (fun c a m1 => numR s = none ∧ c = 2 ∧ a = .non ∧ m1 = m) := by rw [hcf]; exact L_number h
  repeat walk_at "m"
  refine ⟨_, slc_take (n := 1) hz, ?_⟩
  by_cases h1 : s.take 1 = [39]
  · have hne : s ≠ [] := fun e => by rw [e] at h1; cases h1
    by_cases h2 : 2 ≤ s.length
    · repeat walk_at "m"
      obtain ⟨c, hc⟩ : ∃ c, s.getLast? = some c := by
        cases q : s.getLast? with
        | none => exact absurd (List.getLast?_eq_none_iff.mp q) hne
        | some c => exact ⟨c, rfl⟩
      refine ⟨_, sub_last hz hc, ?_⟩
      by_cases h3 : c = 39
      · subst h3
        repeat walk_at "m"
        refine ⟨_, slc_mid hz, ?_⟩
        repeat walk_at "m"
        refine call_is F0 ?_
        cases h4 : isL (mid s) with
        | true =>
          repeat walk_at "m"
          refine ⟨_, slc_mid hz, ?_⟩
          repeat walk_at "m"
          refine ⟨?_, rfl⟩
          unfold rdv
          rw [if_pos h1, if_pos ⟨h2, hc, h4⟩]
          rfl
        | false =>
          repeat walk_at "m"
          refine ⟨?_, rfl, rfl, rfl⟩
          unfold rdv
          rw [if_pos h1, if_neg fun h => by rw [h4] at h; cases h.2.2]
      · repeat walk_at "m"
        refine ⟨?_, rfl, rfl, rfl⟩
        unfold rdv
        rw [if_pos h1, if_neg fun h => h3 (by have := h.2.1; rw [hc] at this; cases this; rfl)]
    · repeat walk_at "m"
      refine ⟨?_, rfl, rfl, rfl⟩
      unfold rdv
      rw [if_pos h1, if_neg fun h => h2 h.1]
  · repeat walk_at "m"
    refine ⟨wR_mono2 F2 (fun d m1 h => ?_) fun c a m1 h => ?_⟩
    · refine ⟨?_, h.2⟩
      unfold rdv
      rw [if_neg h1]; exact h.1
    · refine ⟨?_, h.2⟩
      unfold rdv
      rw [if_neg h1]; exact h.1
/-! ### the law's own look -/
def alL : List Nat := [97, 98, 99, 100, 101, 102, 103, 104, 105, 106, 107, 108, 109, 110, 111, 112, 113, 114, 115, 116, 117, 118, 119, 120, 121, 122]
theorem slt1 (a b : Nat) : slt [a] [b] = decide (a < b) := by
  unfold slt
  by_cases h : a = b
  · rw [if_pos h, decide_eq_false (by omega)]; rfl
  · rw [if_neg h]
theorem alL_mem (c : Nat) : alL.contains c = (!slt [c] [97] && !slt [122] [c]) := by
  rw [slt1, slt1, Bool.eq_iff_iff]
  simp [alL]
  omega
def lkv (w : List Nat) : D := match rdv w with
  | some d => .tup [.bl true, d]
  | none => .tup [.bl false, .int 0]
def okf (w : List Nat) : Bool := decide (1 ≤ w.length ∧ w.length ≤ 60) && w.all fun c => digL.contains c
theorem loop_num {cf : CFn} {s fig : List Nat} {m : Mem} {Z : En} (hd : ∀ c ∈ fig, 48 ≤ c ∧ c ≤ 57) (hq : ∀ x, Z.nx [some (.val (.str s)), none, some (.val (.str fig)), some (.val (.int (numOf fig))), x] m) :
    LoopW (forGo (fun env m => execSs cf sf env [.set 3 (.op .add (.op .mul (.lit (.int 10)) (.bvar 3)) (.mt .find (.lit (.str [48, 49, 50, 51, 52, 53, 54, 55, 56, 57])) [.bvar 4]))] m) (.nm 4) (fig.map fun c => .str [c]) [some (.val (.str s)), none, some (.val (.str fig)), some (.val (.int 0)), none] m) Z := by
  refine loop_is (fun i env m1 => m1 = m ∧ ∃ x, env = [some (.val (.str s)), none, some (.val (.str fig)), some (.val (.int (numOf (fig.take i)))), x]) ⟨rfl, none, rfl⟩ ?_ ?_
  · rintro i d env m1 hi ⟨rfl, x, rfl⟩
    rw [List.getElem?_map] at hi
    cases hc : fig[i]? with
    | none => rw [hc] at hi; cases hi
    | some c =>
      rw [hc] at hi
      cases hi
      refine ⟨_, rfl, wpSs_ok _ _ _ _ ?_⟩
      repeat walk_at "m"
      have e := digL_find (hd c (List.mem_of_getElem? hc))
      refine ⟨rfl, some (.val (.str [c])), ?_⟩
      have : fig.take (i + 1) = fig.take i ++ [c] := by
        rw [List.take_add_one, hc]; rfl
      rw [this, numOf_app, ← e]
      rfl
  · rintro env m1 ⟨rfl, x, rfl⟩
    rw [List.length_map, List.take_length]
    exact hq x
theorem isF_okf {w : List Nat} : isF w = (okf w && (decide (w = [48]) || decide (w.head? ≠ some 48))) := rfl
theorem L_looked {k : Nat} {s : List Nat} {m : Mem} (h : s.length ≤ 1000) : callN PP sf (k + 1) 12 [.str s] m = .ok (lkv s) m := by
  refine fn_is P12 rfl fun cf hcf => ?_
  have hz : s.length ≤ LN := by dsimp only [LN]; omega
  -- the part of the figures
  have part : ∀ (fig : List Nat) (Z : En), fig.length ≤ 1000 → (∀ c r, s = c :: r → True) → s ≠ [] ∨ fig = [] → Z.rt = (fun x m1 => x = lkv s ∧ m1 = m) →
      (okf fig = false → rdv s = none) → (okf fig = true → fig.head? = some 48 → s ≠ [48] → rdv s = none) → (okf fig = true → ¬ (fig.head? = some 48 ∧ s ≠ [48]) → rdv s = some (.int (if s.head? = some 45 then -(numOf fig) else numOf fig))) →
      wpSs cf sf (f12.fn.body.drop 2) [some (.val (.str s)), none, some (.val (.str fig)), none, none] m Z := by
    intro fig Z hl _ hs hr h1 h2 h3
    by_cases hok : okf fig = true
    case neg =>
      have e := h1 (by simpa using hok)
      have fin : ∀ m1, m1 = m → Z.rt (.tup [.bl false, .int 0]) m1 := fun m1 e1 => by
        rw [hr]
        exact ⟨by simp only [lkv, e], e1⟩
      by_cases a1 : 1 ≤ fig.length
      · by_cases a2 : fig.length ≤ 60
        · repeat walk_at "m"
          refine lcw_mapL fig (fun c => .str [c]) (fun c => .bl (digL.contains c)) rfl (fun c hc => lcStep_none rfl (ev_is ?_)) ?_
          · repeat walk_at "m"
            exact ⟨rfl, rfl⟩
          · refine ⟨by rw [List.length_map]; dsimp only [LN]; omega, ?_⟩
            conv => whnf
            refine all_ok ?_
            have h4 : (fig.all fun c => digL.contains c) = false := by
              cases q : fig.all fun c => digL.contains c with
              | false => rfl
              | true => exact absurd (by simp only [okf]; rw [q]; simp [a1, a2]) hok
            rw [h4]
            repeat walk_at "m"
            exact fin m rfl
        · repeat walk_at "m"
          exact fin m rfl
      · repeat walk_at "m"
        exact fin m rfl
    case pos =>
      have hok2 := hok
      simp only [okf, Bool.and_eq_true, decide_eq_true_eq] at hok2
      obtain ⟨⟨a1, a2⟩, a3⟩ := hok2
      have hdg : ∀ c ∈ fig, 48 ≤ c ∧ c ≤ 57 := fun c hc => by
        have := List.all_eq_true.mp a3 c hc
        rw [digL_mem] at this
        simpa using this
      obtain ⟨c, r, rfl⟩ : ∃ c r, fig = c :: r := by
        cases fig with
        | nil => simp at a1
        | cons c r => exact ⟨c, r, rfl⟩
      have hs2 : s ≠ [] := hs.resolve_right (by simp)
      obtain ⟨c0, r0, rfl⟩ : ∃ c r, s = c :: r := by
        cases s with
        | nil => exact absurd rfl hs2
        | cons c r => exact ⟨c, r, rfl⟩
      have hr1 : r.length < LN := by rw [List.length_cons] at hl; dsimp only [LN]; omega
      have hr0 : r0.length < LN := by rw [List.length_cons] at h; dsimp only [LN]; omega
      repeat walk_at "m"
      refine lcw_mapL (c :: r) (fun c => .str [c]) (fun c => .bl (digL.contains c)) rfl (fun c hc => lcStep_none rfl (ev_is ?_)) ?_
      · repeat walk_at "m"
        exact ⟨rfl, rfl⟩
      · refine ⟨by rw [List.length_map]; dsimp only [LN]; omega, ?_⟩
        conv => whnf
        refine all_ok ?_
        rw [a3]
        repeat walk_at "m"
        refine ⟨_, sub_hd hr1, ?_⟩
        have go : (¬ ((c :: r).head? = some 48 ∧ c0 :: r0 ≠ [48])) → LoopW (forGo (fun env m => execSs cf sf env [.set 3 (.op .add (.op .mul (.lit (.int 10)) (.bvar 3)) (.mt .find (.lit (.str [48, 49, 50, 51, 52, 53, 54, 55, 56, 57])) [.bvar 4]))] m) (.nm 4) ((c :: r).map fun c => .str [c]) [some (.val (.str (c0 :: r0))), none, some (.val (.str (c :: r))), some (.val (.int 0)), none] m) { Z with nx := fun env' m' => wpSs cf sf (f12.fn.body.drop 6) env' m' Z } := fun hn => by
          have e := h3 hok hn
          refine loop_num hdg fun x => ?_
          repeat walk_at "m"
          refine ⟨_, sub_hd hr0, ?_⟩
          by_cases b : c0 = 45
          · subst b
            repeat walk_at "m"
            show Z.rt _ _
            rw [hr]
            refine ⟨?_, rfl⟩
            simp [lkv, e]
          · have b2 : decide ([c0] = [45]) = false := decide_eq_false (fun h => b (by simpa using h))
            conv => whnf
            refine ⟨_, rfl, ?_⟩
            conv => whnf
            refine ⟨D.int (numOf (c :: r)), by rw [b2]; rfl, ?_⟩
            show Z.rt _ _
            rw [hr]
            refine ⟨?_, rfl⟩
            have : ¬ (c0 :: r0).head? = some 45 := fun h => b (by simpa using h)
            simp only [lkv, e, if_neg this]
        by_cases b1 : c = 48
        · subst b1
          by_cases b2 : c0 :: r0 = [48]
          · repeat walk_at "m"
            exact go fun h => h.2 b2
          · repeat walk_at "m"
            show Z.rt _ _
            rw [hr]
            exact ⟨by simp only [lkv, h2 hok rfl b2], rfl⟩
        · repeat walk_at "m"
          exact go fun h => b1 (by simpa using h.1)
  have h45 : ∀ r : List Nat, okf (45 :: r) = false := fun r => by simp [okf, digL]
  have h39 : ∀ r : List Nat, okf (39 :: r) = false := fun r => by simp [okf, digL]
  have tail : (¬ (2 ≤ s.length ∧ s.head? = some 39 ∧ s.getLast? = some 39)) → wpSs cf sf (f12.fn.body.drop 1) [some (.val (.str s)), none, none, none, none] m { nx := fun _ m1 => D.non = lkv s ∧ m1 = m, rt := fun x m1 => x = lkv s ∧ m1 = m, ex := fun _ _ _ _ => False } := fun hq => by
    have hl1 : (s.drop 1).length ≤ 1000 := by rw [List.length_drop]; omega
    repeat walk_at "m"
    refine ⟨_, slc_take (n := 1) hz, ?_⟩
    by_cases b : s.take 1 = [45]
    · obtain ⟨r, rfl⟩ : ∃ r, s = 45 :: r := by
        cases s with
        | nil => cases b
        | cons c r =>
          have : c = 45 := by simpa using b
          exact ⟨r, by rw [this]⟩
      have e0 : rdv (45 :: r) = if 45 :: r ≠ [45, 48] ∧ isF r = true then some (.int (-(numOf r))) else none := by
        have : isF (45 :: r) = false := by rw [isF_okf, h45]; rfl
        simp [rdv, numR, this]
      repeat walk_at "m"
      refine ⟨D.str r, by rw [show decide (List.take 1 (45 :: r) = [45]) = true from decide_eq_true b]; exact slc_drop (n := 1) hz, ?_⟩
      refine part r _ (by rw [List.length_cons] at h; omega) (fun _ _ _ => trivial) (.inl (by simp)) rfl (fun hk => ?_) (fun hk hh hs => ?_) fun hk hn => ?_
      · rw [e0, if_neg]
        rw [isF_okf, hk]; simp
      · rw [e0, if_neg]
        rintro ⟨x1, x2⟩
        rw [isF_okf, hk] at x2
        simp [hh] at x2
        exact x1 (by rw [x2])
      · have hh : r.head? ≠ some 48 := fun e => hn ⟨e, by simp⟩
        rw [e0, if_pos ⟨fun e => hh (by cases e; rfl), by rw [isF_okf, hk]; simp [hh]⟩]
        simp
    · have b2 : decide (List.take 1 s = [45]) = false := decide_eq_false b
      have nh : s.head? ≠ some 45 := fun e => b (take1.mpr e)
      repeat walk_at "m"
      refine ⟨D.str s, by rw [b2]; exact (slc_drop (n := 0) hz).trans (by rw [List.drop_zero]), ?_⟩
      have fin : s ≠ [] ∨ s = [] := by
        by_cases e : s = []
        · exact .inr e
        · exact .inl e
      by_cases q : s.take 1 = [39]
      · obtain ⟨r, rfl⟩ : ∃ r, s = 39 :: r := by
          cases s with
          | nil => cases q
          | cons c r =>
            have : c = 39 := by simpa using q
            exact ⟨r, by rw [this]⟩
        have e0 : rdv (39 :: r) = none := by
          unfold rdv
          rw [if_pos (show List.take 1 (39 :: r) = [39] from rfl), if_neg fun x => hq ⟨x.1, rfl, x.2.1⟩]
        refine part (39 :: r) _ h (fun _ _ _ => trivial) fin rfl (fun _ => e0) (fun _ _ _ => e0) fun hk => by rw [h39] at hk; cases hk
      · have e0 : rdv s = if isF s = true then some (.int (numOf s)) else none := by
          unfold rdv numR
          rw [if_neg q, if_neg fun x => b x.1]
        refine part s _ h (fun _ _ _ => trivial) fin rfl (fun hk => ?_) (fun hk hh hs => ?_) fun hk hn => ?_
        · rw [e0, if_neg]
          rw [isF_okf, hk]; simp
        · rw [e0, if_neg]
          rw [isF_okf, hk]
          simp [hh, hs]
        · have : isF s = true := by
            rw [isF_okf, hk]
            by_cases e : s = [48]
            · simp [e]
            · have : s.head? ≠ some 48 := fun x => hn ⟨x, e⟩
              simp [this]
          rw [e0, if_pos this, if_neg nh]
  by_cases c1 : 2 ≤ s.length
  · obtain ⟨c0, r0, rfl⟩ : ∃ c r, s = c :: r := by
      cases s with
      | nil => simp at c1
      | cons c r => exact ⟨c, r, rfl⟩
    have hr0 : r0.length < LN := by rw [List.length_cons] at h; dsimp only [LN]; omega
    obtain ⟨cl, hcl⟩ : ∃ c, (c0 :: r0).getLast? = some c := ⟨_, List.getLast?_eq_some_getLast (by simp)⟩
    repeat walk_at "m"
    refine ⟨_, sub_hd hr0, ?_⟩
    by_cases c2 : c0 = 39
    · subst c2
      repeat walk_at "m"
      refine ⟨_, sub_last hz hcl, ?_⟩
      by_cases c3 : cl = 39
      · subst c3
        repeat walk_at "m"
        refine ⟨_, slc_mid hz, ?_⟩
        have e0 : rdv (39 :: r0) = if isL (mid (39 :: r0)) = true then some (.str (mid (39 :: r0))) else none := by
          unfold rdv
          rw [if_pos (show List.take 1 (39 :: r0) = [39] from rfl)]
          by_cases hL : isL (mid (39 :: r0)) = true
          · rw [if_pos ⟨c1, hcl, hL⟩, if_pos hL]
          · rw [if_neg fun x => hL x.2.2, if_neg hL]
        have hml : (mid (39 :: r0)).length ≤ 1000 := Nat.le_trans mid_len h
        have hml2 : (mid (39 :: r0)).length ≤ LN := by dsimp only [LN]; omega
        show wpSs cf sf [.ife (.and (.op .le (.bi .len [.bvar 1]) (.lit (.int 8))) (.bi .all [.lc (.op .mem (.bvar 4) (.lit (.str alL))) (.nm 4) (.of (.var 1)) none])) [.ret (.tup [.lit (.bl true), .var 1])] [], .ret (.tup [.lit (.bl false), .lit (.int 0)])] [some (.val (.str (39 :: r0))), some (.val (.str (mid (39 :: r0)))), none, none, none] m { nx := fun env' m' => wpSs cf sf (f12.fn.body.drop 1) env' m' { nx := fun _ m1 => D.non = lkv (39 :: r0) ∧ m1 = m, rt := fun x m1 => x = lkv (39 :: r0) ∧ m1 = m, ex := fun _ _ _ _ => False }, rt := fun x m1 => x = lkv (39 :: r0) ∧ m1 = m, ex := fun _ _ _ _ => False }
        generalize hw : mid (39 :: r0) = w at *
        by_cases c4 : w.length ≤ 8
        · repeat walk_at "m"
          refine lcw_mapL w (fun c => .str [c]) (fun c => .bl (alL.contains c)) rfl (fun c hc => lcStep_none rfl (ev_is ?_)) ?_
          · repeat walk_at "m"
            exact ⟨rfl, rfl⟩
          · refine ⟨by rw [List.length_map]; exact hml2, ?_⟩
            conv => whnf
            refine all_ok ?_
            have e1 : (w.all fun c => alL.contains c) = isL w := by
              simp only [isL, alL_mem, c4, decide_true, Bool.true_and]
            rw [e1]
            cases hL : isL w with
            | true =>
              repeat walk_at "m"
              refine ⟨?_, rfl⟩
              simp only [lkv, e0, hL, if_pos]
            | false =>
              repeat walk_at "m"
              refine ⟨?_, rfl⟩
              simp [lkv, e0, hL]
        · have hL : isL w = false := by simp [isL, c4]
          repeat walk_at "m"
          refine ⟨?_, rfl⟩
          simp [lkv, e0, hL]
      · have tq := tail fun x => c3 (by have := x.2.2; rw [hcl] at this; cases this; rfl)
        repeat (first | exact tq | walk_at "m")
    · have tq := tail fun x => c2 (by simpa using x.2.1)
      repeat (first | exact tq | walk_at "m")
  · have tq := tail fun x => c1 x.1
    repeat (first | exact tq | walk_at "m")
/-! ### reading, and what is asked of it -/
def readT (s : List Nat) : D := match rdv s with
  | some d => .tup [.lst [], d]
  | none => .tup [.lst [.bl true, .bl true, .bl false, .non], .non]
theorem rdv_pla {s : List Nat} {d : D} (h : rdv s = some d) : (∃ i, d = .int i) ∨ ∃ w, d = .str w := by
  unfold rdv numR at h
  split at h
  · split at h
    · cases h; exact .inr ⟨_, rfl⟩
    · cases h
  · split at h
    · cases h; exact .inl ⟨_, rfl⟩
    · split at h
      · cases h; exact .inl ⟨_, rfl⟩
      · cases h
theorem L_lawread {k : Nat} {s : List Nat} {m : Mem} (h : s.length ≤ 1000) : callN PP sf (k + 4) 13 [.str s] m = .ok (readT s) m := by
  refine fn_is P13 rfl fun cf hcf => ?_
  have F : wR (cf 3 [.str s] m) (fun d m1 => rdv s = some d ∧ m1 = m) (fun c a m1 => rdv s = none ∧ c = 2 ∧ a = .non ∧ m1 = m) := by rw [hcf]; exact L_read h
  repeat walk_at "m"
  refine ⟨wR_mono2 F (fun d m1 h => ?_) fun c a m1 h => ?_⟩
  · obtain ⟨h1, rfl⟩ := h
    repeat walk_at "m"
    refine ⟨?_, rfl⟩
    simp [readT, h1]
  · obtain ⟨h1, rfl, rfl, rfl⟩ := h
    repeat walk_at "m"
    refine ⟨?_, rfl⟩
    simp only [readT, h1]
    rfl
theorem L_readno {k : Nat} {d : D} {m : Mem} (h : isTy .str (peekR m d) = some false) (hd : pla d = true) : callN PP sf (k + 4) 13 [d] m = .ok (.tup [.lst [.bl true, .bl true, .bl false, .non], .non]) m := by
  refine fn_is P13 rfl fun cf hcf => ?_
  have F : cf 3 [d] m = .exc 2 .non m := by
    rw [hcf]
    refine fn_raises P3 rfl fun cf hcf => ?_
    conv => whnf
    refine ⟨_, h, ?_⟩
    repeat walk_at "m"
    first | exact ⟨rfl, rfl, rfl⟩ | exact ⟨rfl, rfl⟩ | rfl
  repeat walk_at "m"
  refine call_ex F ?_
  repeat walk_at "m"
  exact ⟨rfl, rfl⟩
theorem L_same {k : Nat} {a : D} {m : Mem} (h : (∃ i, a = .int i) ∨ ∃ w, a = .str w) : callN PP sf (k + 1) 14 [a, a] m = .ok (.bl true) m := by
  refine fn_is P14 rfl fun cf hcf => ?_
  rcases h with ⟨i, rfl⟩ | ⟨w, rfl⟩
  · repeat walk_at "m"
    exact ⟨by simp, rfl⟩
  · repeat walk_at "m"
    exact ⟨by simp, rfl⟩
theorem L_right {k : Nat} {s : List Nat} {m : Mem} (h : s.length ≤ 1000) : callN PP sf (k + 5) 15 [.str s] m = .ok (.bl true) m := by
  refine fn_is P15 rfl fun cf hcf => ?_
  have F1 : cf 12 [.str s] m = .ok (lkv s) m := by rw [hcf]; exact L_looked h
  have F2 : cf 13 [.str s] m = .ok (readT s) m := by rw [hcf]; exact L_lawread h
  cases hr : rdv s with
  | none =>
    have e1 : lkv s = .tup [.bl false, .int 0] := by simp only [lkv, hr]
    have e2 : readT s = .tup [.lst [.bl true, .bl true, .bl false, .non], .non] := by simp only [readT, hr]
    rw [e1] at F1
    rw [e2] at F2
    repeat walk_at "m"
    refine call_is F1 ?_
    repeat walk_at "m"
    refine call_is F2 ?_
    repeat walk_at "m"
    exact ⟨rfl, rfl⟩
  | some d =>
    have e1 : lkv s = .tup [.bl true, d] := by simp only [lkv, hr]
    have e2 : readT s = .tup [.lst [], d] := by simp only [readT, hr]
    rw [e1] at F1
    rw [e2] at F2
    have F3 : cf 14 [d, d] m = .ok (.bl true) m := by rw [hcf]; exact L_same (rdv_pla hr)
    repeat walk_at "m"
    refine call_is F1 ?_
    repeat walk_at "m"
    refine call_is F2 ?_
    repeat walk_at "m"
    refine call_is F3 ?_
    exact ⟨rfl, rfl⟩
/-! ### what is shown -/
def GV (d : D) : Prop := (∃ i : Int, d = .int i ∧ i.natAbs < 10 ^ 60) ∨ ∃ w : List Nat, d = .str w ∧ w.length ≤ 8 ∧ ∀ c ∈ w, 97 ≤ c ∧ c ≤ 122
def shw : D → List Nat
  | .int i => strInt i
  | .str w => [39] ++ w ++ [39]
  | _ => []
theorem GV.pla {d : D} (h : GV d) : (∃ i, d = .int i) ∨ ∃ w, d = .str w := by
  rcases h with ⟨i, h, _⟩ | ⟨w, h, _⟩
  · exact .inl ⟨i, h⟩
  · exact .inr ⟨w, h⟩
theorem small60 {i : Int} (h : i.natAbs < 10 ^ 60) : i.natAbs < 2 ^ 1900 := Nat.lt_of_lt_of_le h (by decide +kernel)
theorem L_shown {k : Nat} {d : D} {m : Mem} (h : GV d) : callN PP sf (k + 1) 4 [d] m = .ok (.str (shw d)) m := by
  refine fn_is P4 rfl fun cf hcf => ?_
  rcases h with ⟨i, rfl, h⟩ | ⟨w, rfl, h, _⟩
  · have h2 := small60 h
    repeat walk_at "m"
    exact ⟨rfl, rfl⟩
  · repeat walk_at "m"
    refine ⟨by simp only [List.length_cons, List.length_nil]; dsimp only [LN]; omega, ?_⟩
    repeat walk_at "m"
    refine ⟨by simp only [List.length_append, List.length_cons, List.length_nil]; dsimp only [LN]; omega, ?_⟩
    repeat walk_at "m"
    exact ⟨rfl, rfl⟩
theorem L_lshown {k : Nat} {d : D} {m : Mem} (h : GV d) : callN PP sf (k + 1) 10 [d] m = .ok (.str (shw d)) m := by
  refine fn_is P10 rfl fun cf hcf => ?_
  rcases h with ⟨i, rfl, h⟩ | ⟨w, rfl, h, _⟩
  · have h2 := small60 h
    repeat walk_at "m"
    exact ⟨rfl, rfl⟩
  · repeat walk_at "m"
    refine ⟨by simp only [List.length_cons, List.length_nil]; dsimp only [LN]; omega, ?_⟩
    repeat walk_at "m"
    refine ⟨by simp only [List.length_append, List.length_cons, List.length_nil]; dsimp only [LN]; omega, ?_⟩
    repeat walk_at "m"
    exact ⟨rfl, rfl⟩
theorem shw_len {d : D} (h : GV d) : (shw d).length ≤ 62 := by
  rcases h with ⟨i, rfl, h⟩ | ⟨w, rfl, h, _⟩
  · have := (figs_len (n := i.natAbs) (k := 60) (by omega)).mpr h
    simp only [shw, strInt]
    split
    · rw [List.length_cons]; omega
    · omega
  · simp [shw]; omega
theorem isF_figs {n : Nat} (h : n < 10 ^ 60) : isF (figs n) = true := by
  have h1 := (figs_len (n := n) (k := 60) (by omega)).mpr h
  have h2 : 1 ≤ (figs n).length := by
    have := figs_ne n
    cases q : figs n with
    | nil => exact absurd q this
    | cons _ _ => simp
  have h3 : (figs n).all (fun c => digL.contains c) = true := by
    rw [List.all_eq_true]
    intro c hc
    rw [digL_mem]
    have := figs_dig n c hc
    simp [this]
  simp only [isF, h3, h1, h2]
  by_cases h0 : n = 0
  · subst h0
    rw [figs_zero]; rfl
  · have : (figs n).head? ≠ some 48 := fun e => by
      cases q : figs n with
      | nil => rw [q] at e; cases e
      | cons c r =>
        rw [q] at e
        have := figs_head h0 c r q
        exact this (by simpa using e)
    simp [this]
theorem rdv_shw {d : D} (h : GV d) : rdv (shw d) = some d := by
  rcases h with ⟨i, rfl, h⟩ | ⟨w, rfl, h, hl⟩
  · have hf := isF_figs h
    have hd := figs_dig i.natAbs
    obtain ⟨c, r, q⟩ : ∃ c r, figs i.natAbs = c :: r := by
      cases q : figs i.natAbs with
      | nil => exact absurd q (figs_ne _)
      | cons c r => exact ⟨c, r, rfl⟩
    have hc := hd c (by rw [q]; simp)
    simp only [shw, strInt]
    by_cases hi : i < 0
    · rw [if_pos hi]
      unfold rdv
      rw [if_neg (by simp)]
      unfold numR
      have n0 : i.natAbs ≠ 0 := by omega
      have hne : 45 :: figs i.natAbs ≠ [45, 48] := fun e => by
        have e2 : figs i.natAbs = [48] := by simpa using e
        exact figs_head n0 _ _ e2 rfl
      have hneg : -((i.natAbs : Nat) : Int) = i := by omega
      rw [if_pos ⟨by simp, hne, by simpa using hf⟩, List.drop_succ_cons, List.drop_zero, numOf_figs, hneg]
    · rw [if_neg hi]
      unfold rdv
      rw [if_neg (by rw [q]; simp; omega)]
      unfold numR
      rw [if_neg (fun x => by rw [q] at x; have := x.1; simp at this; omega), if_pos hf, numOf_figs]
      have : ((i.natAbs : Nat) : Int) = i := by omega
      rw [this]
  · have hm : mid (shw (.str w)) = w := by simp [mid, shw]
    have hL : isL w = true := by
      simp only [isL, h, decide_true, Bool.true_and, List.all_eq_true, slt1]
      intro c hc
      have := hl c hc
      simp
      omega
    unfold rdv
    rw [if_pos (by simp [shw]), if_pos ⟨by simp [shw], by show ([39] ++ w ++ [39]).getLast? = some 39; rw [List.getLast?_append]; rfl, by rw [hm]; exact hL⟩, hm]
/-! ### drawn values -/
theorem L_great {k : Nat} {s : Int} : wR (callN PP sf (k + 2) 8 [.ref 0] (stM s)) (fun d m1 => GV d ∧ ∃ s', m1 = stM s') noXX := by
  refine fn_go P8 rfl fun cf hcf => ?_
  have F : ∀ (s many : Int), 0 < many → cf 7 [.ref 0, .int many] (stM s) = .ok (.int (nxv s many)) (stM (nx s)) := fun s many h => by rw [hcf]; exact L_next h
  repeat walk_at "m"
  refine loop_is (fun i env m1 => ∃ s' n x, m1 = stM s' ∧ env = [some (.val (.ref 0)), some (.val (.int n)), x] ∧ 0 ≤ n ∧ n < 10 ^ (15 * i)) ⟨s, 0, none, rfl, rfl, Int.le_refl _, by decide⟩ ?_ ?_
  · rintro i d env m1 hi ⟨s', n, x, rfl, rfl, hn1, hn2⟩
    refine ⟨_, rfl, wpSs_ok _ _ _ _ ?_⟩
    repeat walk_at "m"
    refine call_is (F s' _ (by decide)) ?_
    repeat walk_at "m"
    have hr := nxv_rng (s := s') (many := 10 ^ 15) (by decide)
    refine ⟨nx s', n * 10 ^ 15 + nxv s' (10 ^ 15), some (.val d), rfl, rfl, ?_, ?_⟩
    · omega
    · have : (10 : Int) ^ (15 * (i + 1)) = 10 ^ (15 * i) * 10 ^ 15 := by rw [Nat.mul_add, Int.pow_add]
      rw [this]
      omega
  · rintro env m1 ⟨s', n, x, rfl, rfl, hn1, hn2⟩
    have hlen : (rangeL 0 (Int.toNat 4)).length = 4 := rfl
    rw [hlen] at hn2
    repeat walk_at "m"
    refine call_is (F s' 2 (by decide)) ?_
    have hr := nxv_rng (s := s') (many := 2) (by decide)
    have hcase : nxv s' 2 = 0 ∨ nxv s' 2 = 1 := by omega
    have hn3 : n < 10 ^ 60 := hn2
    rcases hcase with e | e
    · rw [e]
      repeat walk_at "m"
      exact ⟨.inl ⟨n, rfl, by omega⟩, _, rfl⟩
    · rw [e]
      repeat walk_at "m"
      exact ⟨.inl ⟨0 - n, rfl, by omega⟩, _, rfl⟩
theorem alL_len : alL.length = 26 := rfl
theorem sub_alL {i : Int} (h0 : 0 ≤ i) (h : i < 26) : ∃ c, subD (.str alL) (.int i) = some (.str [c]) ∧ 97 ≤ c ∧ c ≤ 122 := by
  have : i = 0 ∨ i = 1 ∨ i = 2 ∨ i = 3 ∨ i = 4 ∨ i = 5 ∨ i = 6 ∨ i = 7 ∨ i = 8 ∨ i = 9 ∨ i = 10 ∨ i = 11 ∨ i = 12 ∨ i = 13 ∨ i = 14 ∨ i = 15 ∨ i = 16 ∨ i = 17 ∨ i = 18 ∨ i = 19 ∨ i = 20 ∨ i = 21 ∨ i = 22 ∨ i = 23 ∨ i = 24 ∨ i = 25 := by omega
  rcases this with rfl | rfl | rfl | rfl | rfl | rfl | rfl | rfl | rfl | rfl | rfl | rfl | rfl | rfl | rfl | rfl | rfl | rfl | rfl | rfl | rfl | rfl | rfl | rfl | rfl | rfl <;> exact ⟨_, rfl, by decide, by decide⟩
abbrev sNum : D := .str [110, 117, 109, 98, 101, 114]
abbrev sWord : D := .str [119, 111, 114, 100]
theorem L_value {k : Nat} {s : Int} {kd : D} (hk : kd = sNum ∨ kd = sWord) : wR (callN PP sf (k + 3) 9 [.ref 0, kd] (stM s)) (fun d m1 => GV d ∧ ∃ s', m1 = stM s') noXX := by
  refine fn_go P9 rfl fun cf hcf => ?_
  have F : ∀ (s many : Int), 0 < many → cf 7 [.ref 0, .int many] (stM s) = .ok (.int (nxv s many)) (stM (nx s)) := fun s many h => by rw [hcf]; exact L_next h
  have FG : ∀ s, wR (cf 8 [.ref 0] (stM s)) (fun d m1 => GV d ∧ ∃ s', m1 = stM s') noXX := fun s => by rw [hcf]; exact L_great
  have hw := nxv_rng (s := s) (many := 10) (by decide)
  repeat walk_at "m"
  refine call_is (F s 10 (by decide)) ?_
  generalize nxv s 10 = way at hw
  rcases hk with rfl | rfl
  · repeat walk_at "m"
    refine call_is (F _ 4 (by decide)) ?_
    repeat walk_at "m"
    have h4 := nxv_rng (s := nx s) (many := 4) (by decide)
    refine call_w (FG _) fun d m1 ⟨hd, s', e⟩ => ?_
    subst e
    repeat walk_at "m"
    by_cases h9 : way = 9
    · subst h9
      refine ⟨d, ?_, ?_⟩
      · simp [decide]
        rfl
      · exact ⟨hd, _, rfl⟩
    · refine ⟨.int (nxv (nx s) 4 - 1), ?_, ?_⟩
      · have : decide (way = 9) = false := decide_eq_false h9
        rw [this]
        rfl
      · exact ⟨.inl ⟨_, rfl, by omega⟩, _, rfl⟩
  · by_cases h8 : way < 8
    · repeat walk_at "m"
      have h4 : way % 4 = 0 ∨ way % 4 = 1 ∨ way % 4 = 2 ∨ way % 4 = 3 := by omega
      have go : ∃ w, subD (.lst [.str [], .str [97], .str [98], .str [97, 98]]) (.int (way % 4)) = some (.str w) ∧ w.length ≤ 8 ∧ ∀ c ∈ w, 97 ≤ c ∧ c ≤ 122 := by
        rcases h4 with e | e | e | e <;> rw [e]
        · exact ⟨[], rfl, by decide, by decide⟩
        · exact ⟨[97], rfl, by decide, by decide⟩
        · exact ⟨[98], rfl, by decide, by decide⟩
        · exact ⟨[97, 98], rfl, by decide, by decide⟩
      obtain ⟨w, e1, e2, e3⟩ := go
      refine ⟨_, e1, ?_⟩
      exact ⟨.inr ⟨w, rfl, e2, e3⟩, _, rfl⟩
    · repeat walk_at "m"
      refine call_is (F _ 9 (by decide)) ?_
      have h9 := nxv_rng (s := nx s) (many := 9) (by decide)
      generalize nxv (nx s) 9 = cnt at h9
      repeat walk_at "m"
      refine loop_is (fun i env m1 => ∃ s' w x, m1 = stM s' ∧ env = [some (.val (.ref 0)), some (.val sWord), some (.val (.int way)), some (.val (.str w)), x] ∧ w.length = i ∧ ∀ c ∈ w, 97 ≤ c ∧ c ≤ 122) ⟨_, [], none, rfl, rfl, rfl, by simp⟩ ?_ ?_
      · rintro i d env m1 hi ⟨s', w, x, rfl, rfl, hl, hc⟩
        have hi2 : i < 9 := by
          have := (List.getElem?_eq_some_iff.mp hi).1
          simp [rangeL] at this
          omega
        have hw8 : w.length + 1 ≤ LN := by dsimp only [LN]; omega
        refine ⟨_, rfl, wpSs_ok _ _ _ _ ?_⟩
        repeat walk_at "m"
        refine call_is (F s' 26 (by decide)) ?_
        have h26 := nxv_rng (s := s') (many := 26) (by decide)
        obtain ⟨c, e1, e2⟩ := sub_alL h26.1 h26.2
        refine ⟨_, e1, ?_⟩
        repeat walk_at "m"
        refine ⟨nx s', w ++ [c], some (.val d), rfl, rfl, by simp [hl], fun a ha => ?_⟩
        rcases List.mem_append.mp ha with z | z
        · exact hc a z
        · rw [List.mem_singleton.mp z]; exact e2
      · rintro env m1 ⟨s', w, x, rfl, rfl, hl, hc⟩
        repeat walk_at "m"
        refine ⟨.inr ⟨w, rfl, ?_, hc⟩, _, rfl⟩
        rw [hl]
        simp [rangeL]
        omega
/-! ### spoilt words -/
theorem sgn_ok {i : Int} (h0 : 0 ≤ i) (h : i < 16) : ∃ c, subD (.str [48, 49, 50, 51, 45, 43, 39, 97, 32, 122, 65, 58, 59, 41, 10, 95]) (.int i) = some (.str [c]) := by
  have : i = 0 ∨ i = 1 ∨ i = 2 ∨ i = 3 ∨ i = 4 ∨ i = 5 ∨ i = 6 ∨ i = 7 ∨ i = 8 ∨ i = 9 ∨ i = 10 ∨ i = 11 ∨ i = 12 ∨ i = 13 ∨ i = 14 ∨ i = 15 := by omega
  rcases this with rfl | rfl | rfl | rfl | rfl | rfl | rfl | rfl | rfl | rfl | rfl | rfl | rfl | rfl | rfl | rfl <;> exact ⟨_, rfl⟩
theorem slc_any {lo hi : Option Int} {s : List Nat} (h : s.length ≤ LN) : ∃ t, slcD lo hi (.str s) = some (.str t) ∧ t.length ≤ s.length := by
  refine ⟨cutL s lo hi, if_pos h, ?_⟩
  unfold cutL
  rw [List.length_take, List.length_drop]
  omega
theorem slc_from {a : Nat} {s : List Nat} (h : s.length ≤ LN) : ∃ t, slcD (some (a : Int)) none (.str s) = some (.str t) ∧ t.length = s.length - a :=
  ⟨s.drop a, slc_drop h, by rw [List.length_drop]⟩
theorem slc_to {a : Nat} {s : List Nat} (h : s.length ≤ LN) : ∃ t, slcD none (some (a : Int)) (.str s) = some (.str t) ∧ t.length ≤ a :=
  ⟨s.take a, slc_take h, by rw [List.length_take]; omega⟩
theorem L_spoilt {k : Nat} {s : Int} {w : List Nat} (h : w.length ≤ 90) : wR (callN PP sf (k + 2) 16 [.ref 0, .str w] (stM s)) (fun d m1 => (∃ w', d = .str w' ∧ w'.length ≤ 1000) ∧ ∃ s', m1 = stM s') noXX := by
  refine fn_go P16 rfl fun cf hcf => ?_
  have hz : w.length ≤ LN := by dsimp only [LN]; omega
  have F : ∀ (s many : Int), 0 < many → cf 7 [.ref 0, .int many] (stM s) = .ok (.int (nxv s many)) (stM (nx s)) := fun s many h => by rw [hcf]; exact L_next h
  repeat walk_at "m"
  refine call_is (F s _ (by show (0 : Int) < (w.length : Int) + 1; omega)) ?_
  have h1 := nxv_rng (s := s) (many := (w.length : Int) + 1) (by omega)
  obtain ⟨a, ea⟩ : ∃ a : Nat, nxv s ((w.length : Int) + 1) = (a : Int) := ⟨(nxv s ((w.length : Int) + 1)).toNat, by omega⟩
  rw [ea] at h1
  have ha : a ≤ w.length := by omega
  rw [ea]
  repeat walk_at "m"
  refine call_is (F _ 16 (by decide)) ?_
  have h2 := nxv_rng (s := nx s) (many := 16) (by decide)
  obtain ⟨c, ec⟩ := sgn_ok h2.1 h2.2
  repeat walk_at "m"
  refine ⟨_, ec, ?_⟩
  repeat walk_at "m"
  refine call_is (F _ 4 (by decide)) ?_
  have h3 := nxv_rng (s := nx (nx s)) (many := 4) (by decide)
  generalize nxv (nx (nx s)) 4 = way at h3
  obtain ⟨t1, e1, l1⟩ := slc_to (a := a) hz
  have fin : ∀ {n : Nat} {t : List Nat}, t.length ≤ n → n ≤ 200 → t.length ≤ LN := fun h1 h2 => by dsimp only [LN]; omega
  have add : ∀ (x y : List Nat) (Q : D → Prop), x.length + y.length ≤ 500 → Q (.str (x ++ y)) → opW .add (.str x) (.str y) Q := fun x y Q h1 h2 => ⟨by dsimp only [LN]; omega, h2⟩
  have last : ∀ (x : Int) (Q : D → Mem → Prop), (∀ t : List Nat, t.length ≤ w.length → ∃ z, slcD (some x) none (.str w) = some z ∧ z = .str t → True) → True := fun _ _ _ => trivial
  by_cases w0 : way = 0
  · repeat walk_at "m"
    refine ⟨_, e1, ?_⟩
    repeat walk_at "m"
    refine ⟨by simp only [List.length_cons, List.length_nil]; dsimp only [LN]; omega, ?_⟩
    repeat walk_at "m"
    obtain ⟨t2, e2, l2⟩ := slc_any (lo := some (a : Int)) (hi := none) hz
    refine ⟨_, e2, ?_⟩
    repeat walk_at "m"
    refine ⟨by simp only [List.length_append, List.length_cons, List.length_nil]; dsimp only [LN]; omega, ?_⟩
    exact ⟨⟨_, rfl, by simp only [List.length_append, List.length_cons, List.length_nil]; omega⟩, _, rfl⟩
  · by_cases w1 : way = 1
    · repeat walk_at "m"
      refine ⟨_, e1, ?_⟩
      repeat walk_at "m"
      refine ⟨by simp only [List.length_cons, List.length_nil]; dsimp only [LN]; omega, ?_⟩
      repeat walk_at "m"
      obtain ⟨t2, e2, l2⟩ := slc_any (lo := some ((a : Int) + 1)) (hi := none) hz
      refine ⟨_, e2, ?_⟩
      repeat walk_at "m"
      refine ⟨by simp only [List.length_append, List.length_cons, List.length_nil]; dsimp only [LN]; omega, ?_⟩
      exact ⟨⟨_, rfl, by simp only [List.length_append, List.length_cons, List.length_nil]; omega⟩, _, rfl⟩
    · by_cases w2 : way = 2
      · repeat walk_at "m"
        refine ⟨_, e1, ?_⟩
        repeat walk_at "m"
        obtain ⟨t2, e2, l2⟩ := slc_any (lo := some ((a : Int) + 1)) (hi := none) hz
        refine ⟨_, e2, ?_⟩
        repeat walk_at "m"
        exact ⟨⟨_, rfl, by simp only [List.length_append]; omega⟩, _, rfl⟩
      · repeat walk_at "m"
        refine ⟨_, e1, ?_⟩
        repeat walk_at "m"
        obtain ⟨t2, e2, l2⟩ := slc_any (lo := some (if (a : Int) - 1 > 0 then (a : Int) - 1 else 0)) (hi := none) hz
        refine ⟨_, e2, ?_⟩
        repeat walk_at "m"
        exact ⟨⟨_, rfl, by simp only [List.length_append]; omega⟩, _, rfl⟩
/-! ### rows -/
def GR (d : D) : Prop := ∃ ds : List D, d = .tup ds ∧ (∀ x ∈ ds, GV x) ∧ ds.length ≤ 100
def shR (ds : List D) : List Nat := joinL [32] (ds.map shw)
theorem txts_map (f : D → List Nat) : ∀ ds : List D, txts (ds.map fun d => .str (f d)) = some (ds.map f)
  | [] => rfl
  | d :: ds => by simp [txts, txts_map f ds]
theorem sum_le {n : Nat} : ∀ (l : List (List Nat)), (∀ x ∈ l, x.length ≤ n) → (l.map List.length).sum ≤ n * l.length
  | [], _ => by simp
  | x :: l, h => by
    have h1 := h x (List.mem_cons_self ..)
    have h2 := sum_le l fun y hy => h y (List.mem_cons_of_mem _ hy)
    simp only [List.map_cons, List.sum_cons, List.length_cons]
    rw [Nat.mul_add]; omega
theorem joinL_len (sep : List Nat) : ∀ l : List (List Nat), (joinL sep l).length ≤ (l.map List.length).sum + l.length * sep.length
  | [] => by simp [joinL]
  | [x] => by simp [joinL]
  | x :: y :: r => by
    have := joinL_len sep (y :: r)
    simp only [joinL, List.length_append, List.map_cons, List.sum_cons, List.length_cons] at this ⊢
    have e : (r.length + 1 + 1) * sep.length = (r.length + 1) * sep.length + sep.length := Nat.succ_mul _ _
    rw [e]
    omega
theorem join_is {sep : List Nat} {l : List (List Nat)} {n : Nat} (h : ∀ x ∈ l, x.length ≤ n) (hn : n ≤ 10000) (hl : l.length ≤ 100) (hs : sep.length ≤ 100) {ds : List D} (e : txts ds = some l) : biD .join [.str sep, .lst ds] = some (.str (joinL sep l)) := by
  show (txts ds).bind _ = _
  rw [e]
  show (if _ then _ else _) = _
  rw [if_pos]
  have h1 := sum_le l h
  have h2 : n * l.length ≤ 10000 * 100 := Nat.mul_le_mul hn hl
  have h3 : l.length * sep.length ≤ 100 * 100 := Nat.mul_le_mul hl hs
  dsimp only [LN]; omega
theorem shR_len {ds : List D} (h : ∀ x ∈ ds, GV x) (hl : ds.length ≤ 100) : (shR ds).length ≤ 10000 := by
  have h1 := joinL_len [32] (ds.map shw)
  have h2 := sum_le (n := 62) (ds.map shw) fun x hx => by
    obtain ⟨d, hd, rfl⟩ := List.mem_map.mp hx
    exact shw_len (h d hd)
  rw [List.length_map] at h1 h2
  unfold shR
  simp only [List.length_cons, List.length_nil] at h1
  omega
/-- both ways to show rows -/
theorem rows_lc {cf : CFn} {m : Mem} {f : Nat} (hf : ∀ d, GV d → cf f [d] m = .ok (.str (shw d)) m) {dss : List (List D)} (hd : ∀ ds ∈ dss, (∀ x ∈ ds, GV x) ∧ ds.length ≤ 100) {Q : List D → Mem → Prop} {a b c : Option Slot}
    (hq : Q (dss.map fun ds => .str (shR ds)) m) :
    LcW (lcStep (fun env m => evalE cf sf env (.mt .join (.lit (.str [32])) [.lc (.call f [.var 2] []) (.nm 2) (.of (.var 1)) none]) m) (condE cf sf none) (.nm 1) [a, b, c]) (dss.map .tup) m Q := by
  refine lcw_mapL dss .tup (fun ds => .str (shR ds)) rfl (fun ds hds => lcStep_none rfl (ev_is ?_)) hq
  obtain ⟨g1, g2⟩ := hd ds hds
  repeat walk_at "m"
  refine lcw_mapL ds (fun d => d) (fun d => .str (shw d)) (by simp [itemsOf]) (fun d hdd => lcStep_none rfl (ev_is ?_)) ?_
  · repeat walk_at "m"
    refine call_is (hf d (g1 d hdd)) ?_
    exact ⟨rfl, rfl⟩
  · refine ⟨by rw [List.length_map]; dsimp only [LN]; omega, ?_⟩
    repeat walk_at "m"
    refine ⟨_, join_is (n := 62) (fun x hx => ?_) (by decide) (by rw [List.length_map]; exact g2) (by decide) (txts_map shw ds), ?_⟩
    · obtain ⟨d, hdd, rfl⟩ := List.mem_map.mp hx
      exact shw_len (g1 d hdd)
    · exact ⟨rfl, rfl⟩
theorem rows_join {dss : List (List D)} (hd : ∀ ds ∈ dss, (∀ x ∈ ds, GV x) ∧ ds.length ≤ 100) (hl : dss.length ≤ 100) : biD .join [.str [59, 32], .lst (dss.map fun ds => .str (shR ds))] = some (.str (joinL [59, 32] (dss.map shR))) := by
  have e : txts (dss.map fun ds => .str (shR ds)) = some (dss.map shR) := by
    clear hd hl
    induction dss with
    | nil => rfl
    | cons a l ih => simp [txts, ih]
  refine join_is (n := 10000) (fun x hx => ?_) (by decide) (by rw [List.length_map]; exact hl) (by decide) e
  obtain ⟨d, hdd, rfl⟩ := List.mem_map.mp hx
  exact shR_len (hd d hdd).1 (hd d hdd).2
/-! ### the law -/
theorem L_rows {k : Nat} {m : Mem} {dss : List (List D)} (hd : ∀ ds ∈ dss, (∀ x ∈ ds, GV x) ∧ ds.length ≤ 100) (hl : dss.length ≤ 100) (hn : dss ≠ []) : callN PP sf (k + 2) 5 [.lst (dss.map .tup)] m = .ok (.str (joinL [59, 32] (dss.map shR))) m := by
  refine fn_is P5 rfl fun cf hcf => ?_
  have F : ∀ d, GV d → cf 4 [d] m = .ok (.str (shw d)) m := fun d h => by rw [hcf]; exact L_shown h
  have hlen : (dss.map D.tup).length ≠ 0 := by
    rw [List.length_map]
    exact fun h => hn (List.eq_nil_of_length_eq_zero h)
  have hz : ¬ (((dss.map D.tup).length : Nat) : Int) = 0 := by omega
  repeat walk_at "m"
  refine rows_lc F hd ⟨by rw [List.length_map]; dsimp only [LN]; omega, ?_⟩
  repeat walk_at "m"
  exact ⟨_, rows_join hd hl, rfl, rfl⟩
theorem rows_pla {dss : List (List D)} (hd : ∀ ds ∈ dss, (∀ x ∈ ds, GV x) ∧ ds.length ≤ 100) : pla (.lst (dss.map .tup)) = true ∧ dep (.lst (dss.map .tup)) ≤ 2 := by
  have h1 : ∀ ds : List D, (∀ x ∈ ds, GV x) → plas ds = true ∧ deps ds = 0 := by
    intro ds
    induction ds with
    | nil => exact fun _ => ⟨rfl, rfl⟩
    | cons d ds ih =>
      intro h
      obtain ⟨a, b⟩ := ih fun x hx => h x (List.mem_cons_of_mem _ hx)
      have hd := h d (List.mem_cons_self ..)
      have : pla d = true ∧ dep d = 0 := by
        rcases hd with ⟨i, rfl, _⟩ | ⟨w, rfl, _, hw⟩
        · exact ⟨rfl, rfl⟩
        · refine ⟨List.all_eq_true.mpr fun c hc => ?_, rfl⟩
          have := hw c hc
          simp
          omega
      exact ⟨by simp [plas, this.1, a], by simp [deps, this.2, b]⟩
  have h2 : plas (dss.map .tup) = true ∧ deps (dss.map .tup) ≤ 1 := by
    have go : ∀ dss : List (List D), (∀ ds ∈ dss, ∀ x ∈ ds, GV x) → plas (dss.map .tup) = true ∧ deps (dss.map .tup) ≤ 1 := by
      intro dss
      induction dss with
      | nil => exact fun _ => ⟨rfl, by decide⟩
      | cons ds dss ih =>
        intro h
        obtain ⟨a, b⟩ := ih fun x hx => h x (List.mem_cons_of_mem _ hx)
        obtain ⟨c, d⟩ := h1 ds (h ds (List.mem_cons_self ..))
        refine ⟨?_, ?_⟩
        · show (plas ds && plas _) = true
          rw [c, a]; rfl
        · show max (deps ds + 1) (deps _) ≤ 1
          rw [d]; omega
    exact go dss fun ds h => (hd ds h).1
  exact ⟨h2.1, by show deps _ + 1 ≤ 2; omega⟩
theorem L_lrows {k : Nat} {m : Mem} {dss : List (List D)} (hd : ∀ ds ∈ dss, (∀ x ∈ ds, GV x) ∧ ds.length ≤ 100) (hl : dss.length ≤ 100) (hn : dss ≠ []) : callN PP sf (k + 2) 11 [.lst (dss.map .tup)] m = .ok (.str (joinL [59, 32] (dss.map shR))) m := by
  refine fn_is P11 rfl fun cf hcf => ?_
  have F : ∀ d, GV d → cf 10 [d] m = .ok (.str (shw d)) m := fun d h => by rw [hcf]; exact L_lshown h
  obtain ⟨p1, p2⟩ := rows_pla hd
  have e : deq (.lst (dss.map .tup)) (.lst []) = some false := by
    rw [deq_val p1 rfl (by omega) (by decide)]
    cases dss with
    | nil => exact absurd rfl hn
    | cons _ _ => rfl
  conv => whnf
  refine ⟨_, e, ?_⟩
  repeat walk_at "m"
  refine rows_lc F hd ⟨by rw [List.length_map]; dsimp only [LN]; omega, ?_⟩
  repeat walk_at "m"
  exact ⟨_, rows_join hd hl, rfl, rfl⟩
theorem L_seed {k : Nat} {ns : List Int} {m : Mem} : wR (callN PP sf (k + 1) 6 [.frz (ns.map .int)] m) (fun d m1 => (∃ s, d = .int s) ∧ m1 = m) noXX := by
  refine fn_go P6 rfl fun cf hcf => ?_
  repeat walk_at "m"
  refine ⟨ns.map .int, .inr rfl, ?_⟩
  refine loop_is (fun i env m1 => m1 = m ∧ ∃ s x y, env = [some (.val (.frz (ns.map .int))), some (.val (.int s)), x, y]) ⟨rfl, 7, none, none, rfl⟩ ?_ ?_
  · rintro i d env m1 hi ⟨rfl, s, x, y, rfl⟩
    simp only [enumL, List.getElem?_mapIdx, List.getElem?_map] at hi
    cases hc : ns[i]? with
    | none => rw [hc] at hi; cases hi
    | some c =>
      rw [hc] at hi
      cases hi
      refine ⟨_, rfl, wpSs_ok _ _ _ _ ?_⟩
      repeat walk_at "m"
      exact ⟨rfl, _, _, _, rfl⟩
  · rintro env m1 ⟨rfl, s, x, y, rfl⟩
    repeat walk_at "m"
    exact ⟨⟨_, rfl⟩, rfl⟩
theorem sub_kinds {i : Int} (h0 : 0 ≤ i) (h : i < 2) : ∃ d, subD (.lst [sNum, sWord]) (.int i) = some d ∧ (d = sNum ∨ d = sWord) := by
  have : i = 0 ∨ i = 1 := by omega
  rcases this with rfl | rfl
  · exact ⟨sNum, rfl, .inl rfl⟩
  · exact ⟨sWord, rfl, .inr rfl⟩
theorem L_law {k : Nat} {ns : List Int} : wR (callN PP sf (k + 10) 17 [.frz (ns.map .int)] []) (fun d m1 => d = .bl true) noXX := by
  refine fn_go P17 rfl fun cf hcf => ?_
  have FN : ∀ (s many : Int), 0 < many → cf 7 [.ref 0, .int many] (stM s) = .ok (.int (nxv s many)) (stM (nx s)) := fun s many h => by rw [hcf]; exact L_next h
  have FV : ∀ (s : Int) (kd : D), (kd = sNum ∨ kd = sWord) → wR (cf 9 [.ref 0, kd] (stM s)) (fun d m1 => GV d ∧ ∃ s', m1 = stM s') noXX := fun s kd h => by rw [hcf]; exact L_value h
  have F4 : ∀ (d : D) (m : Mem), GV d → cf 4 [d] m = .ok (.str (shw d)) m := fun d m h => by rw [hcf]; exact L_shown h
  have F10 : ∀ (d : D) (m : Mem), GV d → cf 10 [d] m = .ok (.str (shw d)) m := fun d m h => by rw [hcf]; exact L_lshown h
  have F15 : ∀ (s : List Nat) (m : Mem), s.length ≤ 1000 → cf 15 [.str s] m = .ok (.bl true) m := fun s m h => by rw [hcf]; exact L_right h
  have F3 : ∀ (s : List Nat) (m : Mem), s.length ≤ 1000 → wR (cf 3 [.str s] m) (fun d m1 => rdv s = some d ∧ m1 = m) (fun c a m1 => rdv s = none ∧ c = 2 ∧ a = .non ∧ m1 = m) := fun s m h => by rw [hcf]; exact L_read h
  have F14 : ∀ (a : D) (m : Mem), ((∃ i, a = .int i) ∨ ∃ w, a = .str w) → cf 14 [a, a] m = .ok (.bl true) m := fun a m h => by rw [hcf]; exact L_same h
  have F16 : ∀ (s : Int) (w : List Nat), w.length ≤ 90 → wR (cf 16 [.ref 0, .str w] (stM s)) (fun d m1 => (∃ w', d = .str w' ∧ w'.length ≤ 1000) ∧ ∃ s', m1 = stM s') noXX := fun s w h => by rw [hcf]; exact L_spoilt h
  have F13 : ∀ (d : D) (m : Mem), isTy .str (peekR m d) = some false → pla d = true → cf 13 [d] m = .ok (.tup [.lst [.bl true, .bl true, .bl false, .non], .non]) m := fun d m h h2 => by rw [hcf]; exact L_readno h h2
  have F6 : wR (cf 6 [.frz (ns.map .int)] []) (fun d m1 => (∃ s, d = .int s) ∧ m1 = []) noXX := by rw [hcf]; exact L_seed
  repeat walk_at "m"
  refine call_w F6 fun d m1 ⟨⟨s, e1⟩, e2⟩ => ?_
  subst e1 e2
  repeat walk_at "m"
  -- ten values
  refine loop_is (fun i env m1 => ∃ s' vals x, m1 = stM s' ∧ env = [some (.val (.frz (ns.map .int))), some (.val (.ref 0)), some (.own (.lst vals)), x, none, none, none, none, none, none] ∧ (∀ v ∈ vals, GV v) ∧ vals.length = 2 + i) ⟨s, [.int 0, .str []], none, rfl, rfl, ?_, rfl⟩ ?_ ?_
  · intro v hv
    rcases List.mem_cons.mp hv with rfl | hv
    · exact .inl ⟨0, rfl, by decide⟩
    · rw [List.mem_singleton.mp hv]
      exact .inr ⟨[], rfl, by decide, by decide⟩
  · rintro i d env m1 hi ⟨s', vals, x, rfl, rfl, hv, hl⟩
    have hi2 : i < 8 := by
      have := (List.getElem?_eq_some_iff.mp hi).1
      simp [rangeL] at this
      omega
    refine ⟨_, rfl, wpSs_ok _ _ _ _ ?_⟩
    repeat walk_at "m"
    refine call_is (FN s' 2 (by decide)) ?_
    have h2 := nxv_rng (s := s') (many := 2) (by decide)
    obtain ⟨kd, e1, e2⟩ := sub_kinds h2.1 h2.2
    refine ⟨_, e1, ?_⟩
    repeat walk_at "m"
    refine call_wn (FV _ kd e2) fun v m1 ⟨g, s2, e3⟩ => ?_
    subst e3
    have hlt : vals.length < LN := by dsimp only [LN]; omega
    repeat walk_at "m"
    refine ⟨s2, vals ++ [v], _, rfl, rfl, fun a ha => ?_, by rw [List.length_append, hl]; rfl⟩
    rcases List.mem_append.mp ha with z | z
    · exact hv a z
    · rw [List.mem_singleton.mp z]; exact g
  rintro env m1 ⟨s1, vals, x, rfl, rfl, hv, hl⟩
  repeat walk_at "m"
  -- each asked
  refine loop_is (fun i env m1 => ∃ s' x y z, m1 = stM s' ∧ env = [some (.val (.frz (ns.map .int))), some (.val (.ref 0)), some (.val (.lst vals)), x, y, z, none, none, none, none]) ⟨s1, x, none, none, rfl, rfl⟩ ?_ ?_
  · rintro i d env m1 hi ⟨s', x, y, z, rfl, rfl⟩
    have g := hv d (List.mem_of_getElem? hi)
    have hw := shw_len g
    refine ⟨_, rfl, wpSs_ok _ _ _ _ ?_⟩
    repeat walk_at "m"
    refine call_is (F4 d _ g) ?_
    repeat walk_at "m"
    refine call_is (F10 d _ g) ?_
    repeat walk_at "m"
    refine call_is (F15 _ _ (by omega)) ?_
    repeat walk_at "m"
    refine call_w2 (F3 _ _ (by omega)) (fun d' m1 ⟨e1, e2⟩ => ?_) fun c a m1 ⟨e1, _⟩ => by rw [rdv_shw g] at e1; cases e1
    rw [rdv_shw g] at e1
    cases e1
    subst e2
    repeat walk_at "m"
    refine call_is (F14 d _ g.pla) ?_
    repeat walk_at "m"
    refine call_wn (F16 s' _ (by omega)) fun d' m1 ⟨⟨w', e1, hw'⟩, s2, e2⟩ => ?_
    subst e1 e2
    repeat walk_at "m"
    refine call_is (F15 _ _ hw') ?_
    repeat walk_at "m"
    exact ⟨s2, _, _, _, rfl, rfl⟩
  rintro env m1 ⟨s2, x, y, z, rfl, rfl⟩
  repeat walk_at "m"
  -- other words
  refine loop_is (fun i env m1 => ∃ y z, m1 = stM s2 ∧ env = [some (.val (.frz (ns.map .int))), some (.val (.ref 0)), some (.val (.lst vals)), x, y, z, none, none, none, none]) ⟨y, z, rfl, rfl⟩ ?_ ?_
  · rintro i d env m1 hi ⟨y, z, rfl, rfl⟩
    have hd : ∃ w : List Nat, d = .str w ∧ w.length ≤ 1000 := by
      have := List.mem_of_getElem? hi
      simp only [List.mem_cons, List.not_mem_nil, or_false] at this
      rcases this with rfl | rfl | rfl | rfl | rfl | rfl | rfl | rfl <;> exact ⟨_, rfl, by decide⟩
    obtain ⟨w, rfl, hw⟩ := hd
    refine ⟨_, rfl, wpSs_ok _ _ _ _ ?_⟩
    repeat walk_at "m"
    refine call_is (F15 w _ hw) ?_
    repeat walk_at "m"
    exact ⟨_, _, rfl, rfl⟩
  rintro env m1 ⟨y, z, rfl, rfl⟩
  repeat walk_at "m"
  -- things that are no text
  refine loop_is (fun i env m1 => ∃ u, m1 = stM s2 ∧ env = [some (.val (.frz (ns.map .int))), some (.val (.ref 0)), some (.val (.lst vals)), x, y, z, u, none, none, none]) ⟨none, rfl, rfl⟩ ?_ ?_
  · rintro i d env m1 hi ⟨u, rfl, rfl⟩
    have hd : isTy .str (peekR (stM s2) d) = some false ∧ pla d = true := by
      have := List.mem_of_getElem? hi
      simp only [List.mem_cons, List.not_mem_nil, or_false] at this
      rcases this with rfl | rfl | rfl | rfl <;> exact ⟨rfl, rfl⟩
    refine ⟨_, rfl, wpSs_ok _ _ _ _ ?_⟩
    repeat walk_at "m"
    refine call_is (F13 d _ hd.1 hd.2) ?_
    repeat walk_at "m"
    exact ⟨_, rfl, rfl⟩
  rintro env m1 ⟨u, rfl, rfl⟩
  repeat walk_at "m"
  -- rows
  refine call_is (FN s2 8 (by decide)) ?_
  have h8 := nxv_rng (s := s2) (many := 8) (by decide)
  generalize nxv s2 8 = c8 at h8
  repeat walk_at "m"
  refine lcw_inv (fun i acc m1 => ∃ s', m1 = stM s' ∧ (∀ kd ∈ acc, kd = sNum ∨ kd = sWord) ∧ acc.length = i) ⟨_, rfl, by simp, rfl⟩ ?_ ?_
  · rintro i d acc m1 hi0 hi ⟨s', rfl, ha, hl2⟩
    obtain ⟨kd, m2, e, h⟩ := step_w (cf := cf) (sub := sf) (e := .sub (.lst [.lit sNum, .lit sWord]) (.call 7 [.var 1, .lit (.int 2)] [])) (t := .nm 3) (d := d) (m := stM s') (env := [some (.val (.frz (ns.map .int))), some (.val (.ref 0)), some (.val (.lst vals)), x, y, z, u, none, none, none]) (Q := fun kd m2 => (∃ s3, m2 = stM s3) ∧ (kd = sNum ∨ kd = sWord)) rfl (by
      repeat walk_at "m"
      refine call_is (FN s' 2 (by decide)) ?_
      have h2 := nxv_rng (s := s') (many := 2) (by decide)
      obtain ⟨kd, e1, e2⟩ := sub_kinds h2.1 h2.2
      refine ⟨_, e1, ?_⟩
      exact ⟨⟨_, rfl⟩, e2⟩)
    obtain ⟨⟨s3, rfl⟩, hk⟩ := h
    refine ⟨some kd, stM s3, e, s3, rfl, fun a ha2 => ?_, by rw [List.length_append, hl2]; rfl⟩
    rcases List.mem_append.mp ha2 with q | q
    · exact ha a q
    · rw [List.mem_singleton.mp q]; exact hk
  rintro kds m1 ⟨s3, rfl, hk, hkl⟩
  have hkl2 : kds.length ≤ 9 := by
    rw [hkl]
    simp [rangeL]
    omega
  refine ⟨by dsimp only [LN]; omega, ?_⟩
  repeat walk_at "m"
  refine call_is (FN s3 3 (by decide)) ?_
  have h3 := nxv_rng (s := s3) (many := 3) (by decide)
  generalize nxv s3 3 = c3 at h3
  repeat walk_at "m"
  refine lcw_inv (fun i acc m1 => ∃ s' dss, m1 = stM s' ∧ acc = dss.map D.tup ∧ (∀ ds ∈ dss, (∀ x ∈ ds, GV x) ∧ ds.length ≤ 100) ∧ dss.length = i) ⟨_, [], rfl, rfl, by simp, rfl⟩ ?_ ?_
  · rintro i d acc m1 hi0 hi ⟨s', dss, rfl, rfl, ha, hl2⟩
    obtain ⟨kd, m2, e, h⟩ := step_w (cf := cf) (sub := sf) (e := .bi .tuple [.lc (.call 9 [.var 1, .var 9] []) (.nm 9) (.of (.var 7)) none]) (t := .nm 3) (d := d) (m := stM s') (env := [some (.val (.frz (ns.map .int))), some (.val (.ref 0)), some (.val (.lst vals)), x, y, z, u, some (.val (.lst kds)), none, none]) (Q := fun kd m2 => (∃ s3, m2 = stM s3) ∧ ∃ ds, kd = D.tup ds ∧ (∀ x ∈ ds, GV x) ∧ ds.length ≤ 100) rfl (by
      repeat walk_at "m"
      refine lcw_inv (fun i acc m1 => ∃ s', m1 = stM s' ∧ (∀ x ∈ acc, GV x) ∧ acc.length = i) ⟨_, rfl, by simp, rfl⟩ ?_ ?_
      · rintro i d acc m1 hi0 hi ⟨s4, rfl, ha, hl2⟩
        obtain ⟨v, m2, e, h⟩ := step_w (cf := cf) (sub := sf) (e := .call 9 [.var 1, .var 9] []) (t := .nm 9) (d := d) (m := stM s4) (env := [some (.val (.frz (ns.map .int))), some (.val (.ref 0)), some (.val (.lst vals)), some (.val _), y, z, u, some (.val (.lst kds)), none, none]) (Q := fun v m2 => GV v ∧ ∃ s', m2 = stM s') rfl (by
          repeat walk_at "m"
          exact call_wn (FV s4 d (hk d (List.mem_of_getElem? hi))) fun v m1 h => h)
        obtain ⟨g, s5, rfl⟩ := h
        refine ⟨some v, stM s5, e, s5, rfl, fun a ha2 => ?_, by rw [List.length_append, hl2]; rfl⟩
        rcases List.mem_append.mp ha2 with q | q
        · exact ha a q
        · rw [List.mem_singleton.mp q]; exact g
      · rintro rs m1 ⟨s4, rfl, ha, hl3⟩
        refine ⟨by dsimp only [LN]; omega, ?_⟩
        repeat walk_at "m"
        exact ⟨⟨_, rfl⟩, rs, rfl, ha, by omega⟩)
    obtain ⟨⟨s5, rfl⟩, ds, rfl, g1, g2⟩ := h
    refine ⟨some (.tup ds), stM s5, e, s5, dss ++ [ds], rfl, by rw [List.map_append]; rfl, fun a ha2 => ?_, by rw [List.length_append, hl2]; rfl⟩
    rcases List.mem_append.mp ha2 with q | q
    · exact ha a q
    · rw [List.mem_singleton.mp q]; exact ⟨g1, g2⟩
  rintro rows m1 ⟨s6, dss, rfl, rfl, hds, hdl⟩
  have hdl1 : dss.length = (1 + c3).toNat := by
    rw [hdl]
    simp [rangeL]
  have hdn : dss ≠ [] := fun e => by rw [e] at hdl1; simp at hdl1; omega
  have hdl2 : dss.length ≤ 100 := by omega
  have F5 : ∀ m, cf 5 [.lst (dss.map .tup)] m = .ok (.str (joinL [59, 32] (dss.map shR))) m := fun m => by rw [hcf]; exact L_rows hds hdl2 hdn
  have F11 : ∀ m, cf 11 [.lst (dss.map .tup)] m = .ok (.str (joinL [59, 32] (dss.map shR))) m := fun m => by rw [hcf]; exact L_lrows hds hdl2 hdn
  have F5n : ∀ m, cf 5 [.lst []] m = .ok (.str [45]) m := fun m => by
    rw [hcf]
    refine fn_is P5 rfl fun cf hcf => ?_
    repeat walk_at "m"
    exact ⟨rfl, rfl⟩
  refine ⟨by rw [List.length_map]; dsimp only [LN]; omega, ?_⟩
  repeat walk_at "m"
  refine call_is (F5 _) ?_
  repeat walk_at "m"
  refine call_is (F11 _) ?_
  repeat walk_at "m"
  refine call_is (F5n _) ?_
  repeat walk_at "m"
  rfl
abbrev KK : Nat := 60
theorem plain : ∀ ns : List Int, ns.length ≤ 63 → ∃ M, callN (Pm tb.P) tb.T.sf KK 17 [.frz (ns.map .int)] [] = .ok (.bl true) M := fun ns _ => by
  have h : wR (callN PP sf (50 + 10) 17 [.frz (ns.map .int)] []) (fun d m1 => d = .bl true) noXX := L_law
  revert h
  show wR (callN (Pm tb.P) tb.T.sf KK 17 [.frz (ns.map .int)] []) _ _ → _
  cases callN (Pm tb.P) tb.T.sf KK 17 [.frz (ns.map .int)] [] with
  | ok d m => rintro rfl; exact ⟨m, rfl⟩
  | exc c a m => exact fun h => h.elim
  | bad => exact fun h => h.elim

end LW
open PySem PySem.W PySem.Calls PyProof.Rows
theorem PySem.Challenge.cw_shardask_k70_values_written_holds : PySem.Challenge.rw_shardask_k70_values_written.Holds := by
  w_on; o_law
  refine HandSHeadRun.head_any (r := OpenLaw.row PySem.Challenge.rw_shardask_k70_values_written) (q := view (OpenLaw.row PySem.Challenge.rw_shardask_k70_values_written).prog [31]) (H := LW.hk) (ob := LW.ob) (M := 4000) (loose := LW.names) (d := HandSHeadRun.topDef (OpenLaw.row PySem.Challenge.rw_shardask_k70_values_written).prog 31) (kwd := []) LW.ob_eq
    (by kernel_rfl) (fun s => by kernel_rfl) LW.run (by kernel_rfl) (by kernel_rfl) (by kernel_rfl) (by rfl) (by first | assumption | decide +kernel) (by decide +kernel) ⟨rfl, rfl, rfl, rfl, rfl, by decide +kernel⟩ ?hw ?hc
  case hw => w_witness2
  case hc =>
    refine L2.walk_ofE (l := PySem.Challenge.rw_shardask_k70_values_written) (n := 63) (k := LW.KK + 2) (x := "_law_script") (CX := Mini.CXa) rfl (by decide) (by kernel_rfl) ⟨rfl, by decide, by decide⟩ ?F Mini.cxa_none
    intro w mg fa h Y G hmg0
    have hmg : mg ("law" : PySem.Str) = some (.ref fa) := by
      have e : (HandSHeadRun.topDef (OpenLaw.row PySem.Challenge.rw_shardask_k70_values_written).prog 31).name = ("law" : PySem.Str) := by kernel_rfl
      rw [← e]
      exact hmg0
    exact Mini.law_ok (tb := LW.tb) (k := LW.KK) (f := 17) (s := LW.f17) (xl := "_law_script") (nmL := "law") LW.ck_all LW.bind_all LW.ini_ok rfl (by decide +kernel) rfl (by decide +kernel) ⟨rfl, by decide, by decide⟩ LW.plain (w := w) Y G hmg

