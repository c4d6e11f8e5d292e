import PyProof.Rows.All
import Wide.All
import OpenK.AllK
import Wide.FinOn
import HandS.ForMost
import HandS.Flow
import HandS.Wide
import HandS.IsInst
import PyProof.ReprRoads
import HandS.TupAny
import HandS.TupMul
import HandS.Star
import HandS.Exc
import HandS.ExcOwn
import HandS.RaiseMore
import HandS.Style
import HandS.Zip
import KE.GoesMore
import KE.GoesEnum
import KE.GoesZip
import HandS.Defaults
import HandS.CallSlots
import HandS.Lambda
import HandS.HeadEnd
import HandS.Head0
import HandS.Head1
import HandS.Head2
import HandS.HeadHook1
import HandS.HeadHook2
import KE.KStateDown
import Lean
import PySem.Challenge.RW_onefitsall_k21_whole_numbers
import HandS.FStrTup
import PyProof.Rows.RegStrFacts
set_option Elab.async false
set_option linter.all false
/-! EvA: my own small language (values, places, expressions, statements) and what it computes. -/
namespace Ev
open PySem

/-- a value: tuples are deep and never change; a list, an instance, a dict stands at a place -/
inductive D where
  | non | bl (b : Bool) | int (i : Int) | str (s : Str) | ty (n : String)
  | tup (ds : List D) | loc (l : Nat) | fn (k : Nat) | cls (k : Nat) | lam (k : Nat) (cs : List D)
  deriving Inhabited

inductive MO where
  | lst (ds : List D) | frz (ds : List D) | ins (c : Nat) (fs : List (Str × D)) | dct (kvs : List (D × D))
  deriving Inhabited

abbrev M := List MO
/-- an exception: its class, what it keeps -/
structure XD where
  c : Nat
  fs : List (Str × D)

inductive R (α : Type) where
  | ok (a : α) (m : M) | exc (x : XD) (m : M) | stuck

def R.bind {α β : Type} : R α → (α → M → R β) → R β
  | .ok a m, f => f a m
  | .exc x m, _ => .exc x m
  | .stuck, _ => .stuck
theorem R.bind_ok {α β : Type} (a : α) (m : M) (f : α → M → R β) : (R.ok a m).bind f = f a m := rfl
theorem R.bind_exc {α β : Type} (x : XD) (m : M) (f : α → M → R β) : (R.exc x m : R α).bind f = .exc x m := rfl
theorem R.bind_stuck {α β : Type} (f : α → M → R β) : (R.stuck : R α).bind f = .stuck := rfl
def ofO {α : Type} (o : Option α) (m : M) : R α := match o with
  | some a => .ok a m
  | none => .stuck

inductive Bop where | add | sub | mul | fdiv | mod | pow
  deriving DecidableEq
inductive Cop where | eq | ne | lt | le | gt | ge | isn | notn | inn | notin
  deriving DecidableEq
/-- built-ins called by name -/
inductive Bi where
  | len | abs | min | max | sum | all | any | tuple | list | int | str | repr | isinst | type | sorted
  deriving DecidableEq

/-- targets -/
inductive T where
  | nm (i : Nat) | tp (ts : T) | nil | cons (t ts : T)

/-- expressions, argument lists (nil, cons, star), what a loop walks (its kinds) -/
inductive E where
  | var (i : Nat) | gl (x : Str) (d : D) | lit (d : D)
  | bin (o : Bop) (a b : E) | neg (a : E) | not (a : E)
  | cmp (o : Cop) (a b : E) | chn (o o' : Cop) (a b c : E)
  | and (a b : E) | or (a b : E) | ite (c a b : E)
  | call (x : Str) (k : Nat) (as : E) (ds : List D) | bi (b : Bi) (as : E) | biq (b : Bi) (a : E)
  | ix (a b : E) | sl (a lo hi : E) | srev (a : E)
  | tup (as : E) | lst (as : E)
  | comp (own : List (Str × Nat)) (t : T) (it c e : E)
  | nil | cons (a as : E) | star (a as : E)
  | seq (a : E) | range1 (a : E) | range2 (a b : E) | range3 (a b c : E) | zip (a b : E) | enum (a : E) | rev (a : E)

inductive S where
  | nil | seq (s r : S)
  | set (i : Nat) (e : E) | asg (t : T) (e : E) | par (is : List Nat) (as : E)
  | sub (o i v : E) | aug (i : Nat) (o : Bop) (e : E) | drop (e : E)
  | ite (c : E) (a b : S) | whl (c : E) (b : S) | for (t : T) (it : E) (b : S)
  | ret (e : E) | retN | brk | cont | pass
  | rais (c : Nat) (x : Str) (as : E)
  deriving Inhabited

abbrev Sl := List (Option D)
/-- how a statement ends: on, back, out of a loop, to its next turn, by an exception with the slots as they then are -/
inductive Fl where
  | nx (σ : Sl) | ret (d : D) | bk (σ : Sl) | ct (σ : Sl) | rs (x : XD) (σ : Sl)

/-- what the defs of the program do -/
abbrev Fs := Nat → List D → M → R D

/-! ### values -/
mutual
/-- no place at or above n -/
def D.undr (n : Nat) : D → Bool
  | .loc l => Nat.blt l n
  | .tup ds => D.undrL n ds
  | .lam _ cs => D.undrL n cs
  | _ => true
def D.undrL (n : Nat) : List D → Bool
  | [] => true
  | d :: ds => D.undr n d && D.undrL n ds
end
def MO.undr (n : Nat) : MO → Bool
  | .lst ds => D.undrL n ds
  | .frz ds => D.undrL n ds
  | .ins _ fs => fs.all fun p => p.2.undr n
  | .dct kvs => kvs.all fun p => p.1.undr n && p.2.undr n

/-- behind a call: what only the call knew is forgotten; a made object that it hands back stands next -/
def gc (n : Nat) (d : D) (m : M) : D × M :=
  if m.length = n then (d, m) else
  if (m.take n).all (MO.undr n) then
    (match d with
    | .loc l => if l < n then (d, m.take n) else (match m[l]? with
      | some o => if o.undr n then (.loc n, m.take n ++ [o]) else (d, m)
      | none => (d, m))
    | _ => if d.undr n then (d, m.take n) else (d, m))
  else (d, m)

/-- the data of a value, lists looked up; as deep as n -/
def pyD (m : M) : Nat → D → Option PyData
  | 0, _ => none
  | n + 1, d => match d with
    | .non => some .none
    | .bl b => some (.bool b)
    | .int i => some (.int i)
    | .str s => some (.str s)
    | .tup ds => (ds.mapM (pyD m n)).map .tuple
    | .loc l => (match m[l]? with
      | some (.lst ds) => (ds.mapM (pyD m n)).map .list
      | some (.frz ds) => (ds.mapM (pyD m n)).map .list
      | _ => none)
    | _ => none

/-- the items of a tuple or a list -/
def items (m : M) : D → Option (List D)
  | .tup ds => some ds
  | .loc l => (match m[l]? with
    | some (.lst ds) => some ds
    | some (.frz ds) => some ds
    | _ => none)
  | _ => none

def truth (m : M) : D → Option Bool
  | .non => some false
  | .bl b => some b
  | .int i => some (i != 0)
  | .str s => if s.length ≤ sizeLine then some ((s.length : Int) != 0) else none
  | .tup ds => some (!ds.isEmpty)
  | .loc l => (match m[l]? with
    | some (.lst ds) => some (!ds.isEmpty)
    | some (.frz ds) => some (!ds.isEmpty)
    | _ => none)
  | _ => none

def mulOk (i j : Int) : Bool := Nat.ble (i.natAbs.log2 + j.natAbs.log2) 134217000
def powOk (i j : Int) : Bool := decide (0 ≤ j) && Nat.ble ((i.natAbs.log2 + 1) * j.toNat) 134217728
def fits (n : Nat) : Bool := Nat.ble n sizeLine

def binV (o : Bop) (m : M) (a b : D) : R D := match o, a, b with
  | .add, .int i, .int j => .ok (.int (i + j)) m
  | .sub, .int i, .int j => .ok (.int (i - j)) m
  | .mul, .int i, .int j => if mulOk i j then .ok (.int (i * j)) m else .stuck
  | .fdiv, .int i, .int j => if decide (j = 0) || Builtin.divisionGoesByPylong i j then .stuck else .ok (.int (i.fdiv j)) m
  | .mod, .int i, .int j => if j = 0 then .stuck else .ok (.int (i.fmod j)) m
  | .pow, .int i, .int j => if powOk i j then .ok (.int (i ^ j.toNat)) m else .stuck
  | .add, .str x, .str y => if fits (x.length + y.length) then .ok (.str (x ++ y)) m else .stuck
  | .add, .tup xs, .tup ys => if fits (xs.length + ys.length) then .ok (.tup (xs ++ ys)) m else .stuck
  | .mul, .tup xs, .int j => if !xs.isEmpty && decide (xs.length ≤ 1000) && decide (2 ≤ j) && decide (j ≤ 1000) then .ok (.tup (List.replicate j.toNat xs).flatten) m else .stuck
  | .add, .loc l, .loc k => (match m[l]?, m[k]? with
    | some (.lst xs), some (.lst ys) => if fits (xs.length + ys.length) then .ok (.loc m.length) (m ++ [.lst (xs ++ ys)]) else .stuck
    | _, _ => .stuck)
  | .mul, .loc l, .int j => (match m[l]? with
    | some (.lst xs) => if fits (xs.length * j.toNat) && decide (j < 2 ^ 63) && decide (-(2 ^ 63) ≤ j) then .ok (.loc m.length) (m ++ [.lst (List.replicate j.toNat xs).flatten]) else .stuck
    | _ => .stuck)
  | _, _, _ => .stuck

/-- two values that == compares by their data -/
def eqD (m : M) (a b : D) : Option Bool := match pyD m 40 a, pyD m 40 b with
  | some p, some q => if SeqAtShaped p && SeqAtShaped q then some (PyData.eqv p q) else none
  | _, _ => none
where SeqAtShaped (d : PyData) : Bool := SeqAt.shaped d

def strLe (x y : Str) : Bool := decide (x.cps.toList < y.cps.toList) || decide (x.cps.toList = y.cps.toList)

def flatD : D → Option L2.V
  | .non => some .non
  | .bl b => some (.bl b)
  | .int i => some (.int i)
  | .str s => some (.str s)
  | _ => none

def inD (m : M) (a b : D) : Option Bool := match b with
  | .str y => (match a with
    | .str x => some (!(Builtin.Str.occurrences y x 0 y.length 1).isEmpty)
    | _ => none)
  | _ => (match items m b, flatD a with
    | some ds, some v => (ds.mapM flatD).map fun vs => L2.inV v vs
    | _, _ => none)

def cmpV (o : Cop) (m : M) (a b : D) : R D := match o, a, b with
  | .isn, a, .non => .ok (.bl (match a with | .non => true | _ => false)) m
  | .notn, a, .non => .ok (.bl (match a with | .non => false | _ => true)) m
  | .lt, .int i, .int j => .ok (.bl (decide (i < j))) m
  | .le, .int i, .int j => .ok (.bl (decide (i ≤ j))) m
  | .gt, .int i, .int j => .ok (.bl (decide (j < i))) m
  | .ge, .int i, .int j => .ok (.bl (decide (j ≤ i))) m
  | .eq, .int i, .int j => .ok (.bl (decide (i = j))) m
  | .ne, .int i, .int j => .ok (.bl (!decide (i = j))) m
  | .eq, .str x, .str y => .ok (.bl (decide (x = y))) m
  | .ne, .str x, .str y => .ok (.bl (!decide (x = y))) m
  | .eq, a, b => (ofO (eqD m a b) m).bind fun c m => .ok (.bl c) m
  | .ne, a, b => (ofO (eqD m a b) m).bind fun c m => .ok (.bl (!c)) m
  | .inn, a, b => (ofO (inD m a b) m).bind fun c m => .ok (.bl c) m
  | .notin, a, b => (ofO (inD m a b) m).bind fun c m => .ok (.bl (!c)) m
  | _, _, _ => .stuck

def asInts : List D → Option (List Int) := List.mapM fun d => match d with
  | .int i => some i
  | _ => none
def asBls : List D → Option (List Bool) := List.mapM fun d => match d with
  | .bl b => some b
  | _ => none

/-- the name of a value's type -/
def tyN (m : M) : D → Option String
  | .non => some "NoneType"
  | .bl _ => some "bool"
  | .int _ => some "int"
  | .str _ => some "str"
  | .tup _ => some "tuple"
  | .loc l => (match m[l]? with
    | some (.lst _) => some "list"
    | some (.frz _) => some "list"
    | _ => none)
  | _ => none
def isTL : PyData → Bool
  | .list _ => true
  | .tuple _ => true
  | _ => false
/-- the text of a tuple, a list, an int -/
def reprV (m : M) (d : D) : R D := match d with
  | .int i => if Nat.blt i.natAbs.log2 1920 then .ok (.str (toString i)) m else .stuck
  | _ => match pyD m 40 d with
    | some p => if p.showable && !p.hasDict && Nat.blt p.depth 60 && fits p.shown.length && isTL p then .ok (.str p.shown) m else .stuck
    | none => .stuck

/-- a built-in over its arguments' values; items already looked up where the argument is a display or comprehension -/
def biV (b : Bi) (m : M) (as : List D) : R D := match b, as with
  | .len, [.str s] => if fits s.length then .ok (.int s.length) m else .stuck
  | .len, [d] => (ofO (items m d) m).bind fun ds m => .ok (.int ds.length) m
  | .abs, [.int i] => .ok (.int (if i < 0 then -i else i)) m
  | .min, [.int i, .int j] => .ok (.int (if j < i then j else i)) m
  | .max, [.int i, .int j] => .ok (.int (if j > i then j else i)) m
  | .int, [.int i] => .ok (.int i) m
  | .int, [.bl b] => .ok (.int (if b then 1 else 0)) m
  | .isinst, [d, .ty t] => (ofO ((tyN m d).bind fun t0 => L2.kitB t0 t) m).bind fun b m => .ok (.bl b) m
  | .repr, [d] => reprV m d
  | .str, [.int i] => if Nat.blt i.natAbs.log2 1920 then .ok (.str (toString i)) m else .stuck
  | _, _ => .stuck

/-- a built-in over the items of one sequence; l: a list -/
def biS (b : Bi) (m : M) (l : Bool) (ds : List D) : R D := match b with
  | .tuple => .ok (.tup ds) m
  | .list => .ok (.loc m.length) (m ++ [.lst ds])
  | .all => if l then (ofO (asBls ds) m).bind fun bs m => .ok (.bl (bs.all id)) m else .stuck
  | .any => if l then (ofO (asBls ds) m).bind fun bs m => .ok (.bl (bs.any id)) m else .stuck
  | .sum => if l then (ofO (asInts ds) m).bind fun is m => .ok (.int is.sum) m else .stuck
  | _ => .stuck
def ixV (m : M) (a b : D) : R D := match b with
  | .int i => (match a with
    | .str s => if fits s.length then ofO ((L2.atI s.cps.toList i).map fun c => .str ⟨#[c]⟩) m else .stuck
    | _ => (ofO (items m a) m).bind fun ds m => ofO (L2.atI ds i) m)
  | _ => .stuck

def cutD (xs : List D) (lo hi : Option Int) : List D := (xs.drop (HT.sIx xs.length 0 lo)).take (HT.sIx xs.length xs.length hi - HT.sIx xs.length 0 lo)
def slV (m : M) (a : D) (lo hi : Option Int) : R D := match a with
  | .tup ds => .ok (.tup (cutD ds lo hi)) m
  | .loc l => (match m[l]? with
    | some (.lst ds) => .ok (.loc m.length) (m ++ [.lst (cutD ds lo hi)])
    | some (.frz ds) => .ok (.loc m.length) (m ++ [.lst (cutD ds lo hi)])
    | _ => .stuck)
  | _ => .stuck

def revV (m : M) (a : D) : R D := match a with
  | .loc l => (match m[l]? with
    | some (.lst ds) => .ok (.loc m.length) (m ++ [.lst ds.reverse])
    | some (.frz ds) => .ok (.loc m.length) (m ++ [.lst ds.reverse])
    | _ => .stuck)
  | _ => .stuck
def partV : D → Option (Option Int)
  | .int i => some (some i)
  | _ => none

/-! ### targets -/
mutual
def T.put : T → D → Sl → Option Sl
  | .nm i, d, σ => if i < σ.length then some (σ.set i (some d)) else none
  | .tp ts, .tup ds, σ => T.puts ts ds σ
  | _, _, _ => none
def T.puts : T → List D → Sl → Option Sl
  | .nil, [], σ => some σ
  | .cons t ts, d :: ds, σ => (T.put t d σ).bind (T.puts ts ds)
  | _, _, _ => none
end
/-- the slots that a target stores -/
def T.ixs : T → List Nat
  | .nm i => [i]
  | .tp ts => ts.ixs
  | .nil => []
  | .cons t ts => t.ixs ++ ts.ixs
/-- how many -/
def T.count : T → Nat
  | .cons _ ts => ts.count + 1
  | _ => 0
def wipeD (σ : Sl) : List Nat → Sl
  | [] => σ
  | i :: r => (wipeD σ r).set i none

def rangeD (lo : Int) (n : Nat) : List D := (List.range n).map fun (k : Nat) => D.int (lo + k)
/-- the ends of ranges that the rules take -/
def rOk (i : Int) : Bool := decide (-(2 ^ 62) ≤ i) && decide (i < 2 ^ 62)

/-! ### expressions -/
/-- what a loop walks: a tuple's items; those of a list that nothing names; a text's signs; the list at a place, as it stands at each turn; two at once; with the turn's number -/
inductive Src where
  | vals (ds : List D) | tmp (ds : List D) | str (s : Str) | at_ (l : Nat) | zip (s t : Src) | enum (s : Src)
def chars (s : Str) : List D := s.cps.toList.map fun c => .str ⟨#[c]⟩
def at? (ds : List D) (i : Nat) : Option (Option D) := if i ≤ ds.length then some ds[i]? else none
def Src.item (m : M) : Src → Nat → Option (Option D)
  | .vals ds, i => at? ds i
  | .tmp ds, i => at? ds i
  | .str s, i => at? (chars s) i
  | .at_ l, i => (match m[l]? with
    | some (.lst ds) => at? ds i
    | some (.frz ds) => at? ds i
    | _ => none)
  | .zip s t, i => (match s.item m i, t.item m i with
    | some (some x), some (some y) => some (some (.tup [x, y]))
    | some _, some _ => some none
    | _, _ => none)
  | .enum s, i => (s.item m i).map fun o => o.map fun d => .tup [.int i, d]
/-- the items, where they cannot change -/
def Src.flat : Src → Option (List D)
  | .vals ds => some ds
  | .tmp ds => some ds
  | .str s => some (chars s)
  | .at_ _ => none
  | .zip s t => (match s.flat, t.flat with
    | some xs, some ys => some ((xs.zip ys).map fun p => .tup [p.1, p.2])
    | _, _ => none)
  | .enum s => s.flat.map fun xs => xs.zipIdx.map fun p => .tup [.int p.2, p.1]
def srcOf (m : M) : D → Option Src
  | .tup ds => some (.vals ds)
  | .str s => some (.str s)
  | .loc l => (match m[l]? with
    | some (.lst _) => some (.at_ l)
    | some (.frz _) => some (.at_ l)
    | _ => none)
  | _ => none
/-- all items of a list or a tuple, now; whether it is a list -/
def Src.all (m : M) : Src → Option (Bool × List D)
  | .vals ds => some (false, ds)
  | .tmp ds => some (true, ds)
  | .at_ l => (match m[l]? with
    | some (.lst ds) => some (true, ds)
    | some (.frz ds) => some (true, ds)
    | _ => none)
  | _ => none

/-- one turn after the other of a comprehension -/
def compL (turn : D → M → R (Option D)) : List D → List D → M → R (List D)
  | [], acc, m => .ok acc m
  | d :: ds, acc, m => (turn d m).bind fun r m => compL turn ds (r.elim acc fun y => acc ++ [y]) m
def compN (src : Src) (turn : D → M → R (Option D)) : Nat → Nat → List D → M → R (List D)
  | 0, _, _, _ => .stuck
  | n + 1, i, acc, m => match src.item m i with
    | none => .stuck
    | some none => .ok acc m
    | some (some d) => (turn d m).bind fun r m => compN src turn n (i + 1) (r.elim acc fun y => acc ++ [y]) m
def compS (W : Nat) (src : Src) (turn : D → M → R (Option D)) (m : M) : R (List D) := match src.flat with
  | some ds => compL turn ds [] m
  | none => compN src turn W 0 [] m

/-- what an expression does: as a value, as arguments, as an optional bound, as a sequence of items, as what a loop walks -/
structure Den where
  v : Sl → M → R D := fun _ _ => .stuck
  s : Sl → M → R (List D) := fun _ _ => .stuck
  o : Sl → M → R (Option Int) := fun σ m => (v σ m).bind fun x m => ofO (partV x) m
  q : Sl → M → R Src := fun σ m => (v σ m).bind fun x m => ofO (srcOf m x) m
  i : Sl → M → R Src := fun _ _ => .stuck

/-- no exception leaves -/
def R.nox {α : Type} : R α → R α
  | .exc _ _ => .stuck
  | r => r
def tru (f : Sl → M → R D) : Sl → M → R Bool := fun σ m => (f σ m).bind fun x m => ofO (truth m x) m
def elC (e : Sl → M → R D) (σ : Sl) (m : M) : R (Option D) := (e σ m).bind fun y m => .ok (some y) m
/-- a turn of a comprehension -/
def turnC (own : List (Str × Nat)) (t : T) (c : Option (Sl → M → R D)) (e : Sl → M → R D) (σ : Sl) (d : D) (m : M) : R (Option D) :=
  match T.put t d (wipeD σ (own.map (·.2))) with
  | some σ' => (match c with
    | none => (elC e σ' m).nox
    | some c => ((tru c σ' m).bind fun b m => if b then elC e σ' m else .ok none m).nox)
  | none => .stuck
def E.isNil : E → Bool
  | .nil => true
  | _ => false

def negV (fa : Sl → M → R D) (σ : Sl) (m : M) : R D := (fa σ m).bind fun x m => match x with
  | .int i => .ok (.int (-i)) m
  | _ => .stuck
def binF (o : Bop) (fa fb : Sl → M → R D) (σ : Sl) (m : M) : R D := (fa σ m).bind fun x m => (fb σ m).bind fun y m => binV o m x y
def cmpF (o : Cop) (fa fb : Sl → M → R D) (σ : Sl) (m : M) : R D := (fa σ m).bind fun x m => (fb σ m).bind fun y m => cmpV o m x y
def chnK (o' : Cop) (fc : Sl → M → R D) (y : D) (σ : Sl) (r : D) (m : M) : R D := match r with
  | .bl true => (fc σ m).bind fun z m => cmpV o' m y z
  | .bl false => .ok (.bl false) m
  | _ => .stuck
def chnV (o o' : Cop) (fa fb fc : Sl → M → R D) (σ : Sl) (m : M) : R D := (fa σ m).bind fun x m => (fb σ m).bind fun y m => (cmpV o m x y).bind (chnK o' fc y σ)
def andV (fa fb : Sl → M → R D) (σ : Sl) (m : M) : R D := (fa σ m).bind fun x m => (ofO (truth m x) m).bind fun t m => if t then fb σ m else .ok x m
def orV (fa fb : Sl → M → R D) (σ : Sl) (m : M) : R D := (fa σ m).bind fun x m => (ofO (truth m x) m).bind fun t m => if t then .ok x m else fb σ m
def notV (fa : Sl → M → R D) (σ : Sl) (m : M) : R D := (fa σ m).bind fun x m => (ofO (truth m x) m).bind fun t m => .ok (.bl (!t)) m
def iteV (fc fa fb : Sl → M → R D) (σ : Sl) (m : M) : R D := (fc σ m).bind fun x m => (ofO (truth m x) m).bind fun t m => if t then fa σ m else fb σ m
def consV (fa : Sl → M → R D) (fs : Sl → M → R (List D)) (σ : Sl) (m : M) : R (List D) := (fa σ m).bind fun d m => (fs σ m).bind fun ds m => .ok (d :: ds) m
def starV (fa : Sl → M → R D) (fs : Sl → M → R (List D)) (σ : Sl) (m : M) : R (List D) := (fa σ m).bind fun x m => (ofO (items m x) m).bind fun xs m => (fs σ m).bind fun ds m => .ok (xs ++ ds) m
def tupK (ds : List D) (m : M) : R D := if fits ds.length then .ok (.tup ds) m else .stuck
def lstK (ds : List D) (m : M) : R D := if fits ds.length then .ok (.loc m.length) (m ++ [.lst ds]) else .stuck
def lstKq (ds : List D) (m : M) : R Src := if fits ds.length then .ok (.tmp ds) m else .stuck
def compF (W : Nat) (own : List (Str × Nat)) (t : T) (fi : Sl → M → R Src) (c : Option (Sl → M → R D)) (e : Sl → M → R D) (σ : Sl) (m : M) : R (List D) := (fi σ m).bind fun src m => compS W src (turnC own t c e σ) m
def rng1K (x : D) (m : M) : R Src := match x with
  | .int i => if rOk i then .ok (.vals (rangeD 0 i.toNat)) m else .stuck
  | _ => .stuck
def rng2K (x y : D) (m : M) : R Src := match x, y with
  | .int i, .int j => if rOk i && rOk j then .ok (.vals (rangeD i (j - i).toNat)) m else .stuck
  | _, _ => .stuck
def seqOf (m : M) (d : D) : Option Src := match srcOf m d with
  | some (.str _) => none
  | o => o
def zipF (fa fb : Sl → M → R D) (σ : Sl) (m : M) : R Src := (fa σ m).bind fun x m => (fb σ m).bind fun y m => (ofO (seqOf m x) m).bind fun s m => (ofO (seqOf m y) m).bind fun t m => .ok (.zip s t) m

def ev (fs : Fs) (W : Nat) : E → Den
  | .var i => { v := fun σ m => ofO ((σ[i]?).join) m }
  | .gl _ d => { v := fun _ m => .ok d m }
  | .lit d => { v := fun _ m => .ok d m }
  | .bin o a b => { v := binF o (ev fs W a).v (ev fs W b).v }
  | .neg a => { v := negV (ev fs W a).v }
  | .not a => { v := notV (ev fs W a).v }
  | .cmp o a b => { v := cmpF o (ev fs W a).v (ev fs W b).v }
  | .chn o o' a b c => { v := chnV o o' (ev fs W a).v (ev fs W b).v (ev fs W c).v }
  | .and a b => { v := andV (ev fs W a).v (ev fs W b).v }
  | .or a b => { v := orV (ev fs W a).v (ev fs W b).v }
  | .ite c a b => { v := iteV (ev fs W c).v (ev fs W a).v (ev fs W b).v }
  | .call _ k as ds => { v := fun σ m => ((ev fs W as).s σ m).bind fun es m => fs k (es ++ ds) m }
  | .bi b as => { v := fun σ m => ((ev fs W as).s σ m).bind fun ds m => biV b m ds }
  | .biq b a => { v := fun σ m => ((ev fs W a).q σ m).bind fun s m => (ofO (s.all m) m).bind fun p m => biS b m p.1 p.2 }
  | .ix a b => { v := fun σ m => ((ev fs W a).v σ m).bind fun x m => ((ev fs W b).v σ m).bind fun y m => ixV m x y }
  | .sl a lo hi => { v := fun σ m => ((ev fs W a).v σ m).bind fun x m => ((ev fs W lo).o σ m).bind fun i m => ((ev fs W hi).o σ m).bind fun j m => slV m x i j }
  | .srev a => { v := fun σ m => ((ev fs W a).v σ m).bind fun x m => revV m x }
  | .tup as => { v := fun σ m => ((ev fs W as).s σ m).bind tupK }
  | .lst as => { v := fun σ m => ((ev fs W as).s σ m).bind lstK, q := fun σ m => ((ev fs W as).s σ m).bind lstKq }
  | .comp own t it c e =>
    { v := fun σ m => (compF W own t (ev fs W it).i (if c.isNil then none else some (ev fs W c).v) (ev fs W e).v σ m).bind lstK
      q := fun σ m => (compF W own t (ev fs W it).i (if c.isNil then none else some (ev fs W c).v) (ev fs W e).v σ m).bind lstKq }
  | .nil => { s := fun _ m => .ok [] m, o := fun _ m => .ok none m }
  | .cons a as => { s := consV (ev fs W a).v (ev fs W as).s }
  | .star a as => { s := starV (ev fs W a).v (ev fs W as).s }
  | .seq a => { i := (ev fs W a).q }
  | .range1 a => { i := fun σ m => ((ev fs W a).v σ m).bind rng1K }
  | .range2 a b => { i := fun σ m => ((ev fs W a).v σ m).bind fun x m => ((ev fs W b).v σ m).bind fun y m => rng2K x y m }
  | .range3 _ _ _ => {}
  | .zip a b => { i := zipF (ev fs W a).v (ev fs W b).v }
  | .enum a => { i := fun σ m => ((ev fs W a).v σ m).bind fun x m => (ofO (seqOf m x) m).bind fun s m => .ok (.enum s) m }
  | .rev _ => {}

/-! ### statements -/
/-- from a value on; an exception ends the statement -/
def R.go {α : Type} (r : R α) (σ : Sl) (k : α → M → R Fl) : R Fl := match r with
  | .ok a m => k a m
  | .exc x m => .ok (.rs x σ) m
  | .stuck => .stuck
/-- behind a statement -/
def seqK (k : Sl → M → R Fl) (f : Fl) (m : M) : R Fl := match f with
  | .nx σ' => k σ' m
  | f => .ok f m
/-- behind a turn of a loop -/
def loopK (k : Sl → M → R Fl) (f : Fl) (m : M) : R Fl := match f with
  | .nx σ' => k σ' m
  | .ct σ' => k σ' m
  | .bk σ' => .ok (.nx σ') m
  | f => .ok f m
/-- one turn after the other of a loop -/
def forL (turn : D → Sl → M → R Fl) : List D → Sl → M → R Fl
  | [], σ, m => .ok (.nx σ) m
  | d :: ds, σ, m => (turn d σ m).bind (loopK (forL turn ds))
def forN (src : Src) (turn : D → Sl → M → R Fl) : Nat → Nat → Sl → M → R Fl
  | 0, _, _, _ => .stuck
  | n + 1, i, σ, m => match src.item m i with
    | none => .stuck
    | some none => .ok (.nx σ) m
    | some (some d) => (turn d σ m).bind (loopK (forN src turn n (i + 1)))
def forS (W : Nat) (src : Src) (turn : D → Sl → M → R Fl) (σ : Sl) (m : M) : R Fl := match src.flat with
  | some ds => forL turn ds σ m
  | none => forN src turn W 0 σ m
def turnF (t : T) (b : Sl → M → R Fl) (d : D) (σ : Sl) (m : M) : R Fl := (ofO (T.put t d σ) m).bind b
def whileL (c : Sl → M → R Bool) (turn : Sl → M → R Fl) : Nat → Sl → M → R Fl
  | 0, _, _ => .stuck
  | n + 1, σ, m => (c σ m).go σ fun b m => if b then (turn σ m).bind (loopK (whileL c turn n)) else .ok (.nx σ) m

def puts (is : List Nat) (ds : List D) (σ : Sl) : Option Sl := match is, ds with
  | [], [] => some σ
  | i :: is, d :: ds => if i < σ.length then puts is ds (σ.set i (some d)) else none
  | _, _ => none

def setV (m : M) (o i v : D) : R Unit := match o, i with
  | .loc l, .int k => (match m[l]? with
    | some (.lst xs) => (ofO (L2.ixN xs.length k) m).bind fun j m => .ok () (m.set l (.lst (xs.set j v)))
    | _ => .stuck)
  | _, _ => .stuck

def setK (i : Nat) (σ : Sl) (d : D) (m : M) : R Fl := if i < σ.length then .ok (.nx (σ.set i (some d))) m else .stuck
def asgK (t : T) (σ : Sl) (d : D) (m : M) : R Fl := (ofO (T.put t d σ) m).bind fun σ' m => .ok (.nx σ') m
def parK (is : List Nat) (σ : Sl) (ds : List D) (m : M) : R Fl := (ofO (puts is ds σ) m).bind fun σ' m => .ok (.nx σ') m
def subK (σ : Sl) (z x y : D) (m : M) : R Fl := (setV m x y z).bind fun _ m => .ok (.nx σ) m
def ifF (c : Sl → M → R D) (fa fb : Sl → M → R Fl) (σ : Sl) (m : M) : R Fl := (tru c σ m).go σ fun t m => if t then fa σ m else fb σ m
def augK (i : Nat) (o : Bop) (σ : Sl) (x y : D) (m : M) : R Fl := match x, y with
  | .int _, .int _ => (binV o m x y).go σ fun z m => .ok (.nx (σ.set i (some z))) m
  | _, _ => .stuck
def ex (fs : Fs) (W : Nat) : S → Sl → M → R Fl
  | .nil, σ, m => .ok (.nx σ) m
  | .seq s r, σ, m => (ex fs W s σ m).bind (seqK (ex fs W r))
  | .set i e, σ, m => ((ev fs W e).v σ m).go σ (setK i σ)
  | .asg t e, σ, m => ((ev fs W e).v σ m).go σ (asgK t σ)
  | .par is as, σ, m => ((ev fs W as).s σ m).go σ (parK is σ)
  | .sub o i v, σ, m => ((ev fs W v).v σ m).go σ fun z m => ((ev fs W o).v σ m).go σ fun x m => ((ev fs W i).v σ m).go σ fun y m => subK σ z x y m
  | .aug i o e, σ, m => (ofO ((σ[i]?).join) m).bind fun x m => ((ev fs W e).v σ m).go σ fun y m => augK i o σ x y m
  | .drop e, σ, m => ((ev fs W e).v σ m).go σ fun _ m => .ok (.nx σ) m
  | .ite c a b, σ, m => ifF (ev fs W c).v (ex fs W a) (ex fs W b) σ m
  | .whl c b, σ, m => whileL (tru (ev fs W c).v) (ex fs W b) W σ m
  | .for t it b, σ, m => ((ev fs W it).i σ m).go σ fun src m => forS W src (turnF t (ex fs W b)) σ m
  | .ret e, σ, m => ((ev fs W e).v σ m).go σ fun d m => .ok (.ret d) m
  | .retN, _, m => .ok (.ret .non) m
  | .brk, σ, m => .ok (.bk σ) m
  | .cont, σ, m => .ok (.ct σ) m
  | .pass, σ, m => .ok (.nx σ) m
  | .rais c _ as, σ, m => ((ev fs W as).s σ m).go σ fun _ m => .ok (.rs ⟨c, []⟩ σ) m

/-! ### the program -/
structure FD where
  np : Nat
  n : Nat
  body : S
  deriving Inhabited
def call (fs : Fs) (W : Nat) (f : FD) (ds : List D) (m : M) : R D :=
  if ds.length = f.np then
    (ex fs W f.body (ds.map some ++ List.replicate (f.n - f.np) none) m).bind fun r m' => match r with
      | .nx _ => .ok (gc m.length .non m').1 (gc m.length .non m').2
      | .ret d => .ok (gc m.length d m').1 (gc m.length d m').2
      | .rs x _ => if x.fs.all fun p => p.2.undr m.length then .exc x (gc m.length .non m').2 else .exc x m'
      | _ => .stuck
  else .stuck
def run (p : List FD) (W : Nat) : Nat → Fs
  | 0 => fun _ _ _ => .stuck
  | n + 1 => fun k ds m => match p[k]? with
    | some f => call (run p W n) W f ds m
    | none => .stuck
end Ev
set_option Elab.async false
set_option linter.all false
set_option maxRecDepth 100000
/-! EvB: how my values, places, slots stand to the layer's. -/
namespace Ev
open PySem PySem.Spec PyProof.Rows L2

/-- the written part; where the defs and classes stand -/
structure Wd where
  K : PySem.W.Frag
  fa : Nat → Addr
  ca : Nat → Addr

mutual
inductive RV (Ω : Wd) (A : List Addr) (H : Hp) : V → D → Prop
  | non : RV Ω A H .non .non
  | bl (b : Bool) : RV Ω A H (.bl b) (.bl b)
  | int (i : Int) : RV Ω A H (.int i) (.int i)
  | str (s : Str) : RV Ω A H (.str s) (.str s)
  | ty (n : String) : RV Ω A H (.ty n) (.ty n)
  | tup {a : Addr} {xs : List V} {ds : List D} : Rd H a (.tup xs) → a ∉ A → RVs Ω A H xs ds → RV Ω A H (.ref a) (.tup ds)
  | tupK {a : Addr} {xs : List V} {ds : List D} : SqT Ω.K (fun _ => none) a xs → RVs Ω A H xs ds → RV Ω A H (.ref a) (.tup ds)
  | loc {a : Addr} {l : Nat} : A[l]? = some a → RV Ω A H (.ref a) (.loc l)
  | fn (k : Nat) : RV Ω A H (.ref (Ω.fa k)) (.fn k)
  | cls (k : Nat) : RV Ω A H (.ref (Ω.ca k)) (.cls k)
inductive RVs (Ω : Wd) (A : List Addr) (H : Hp) : List V → List D → Prop
  | nil : RVs Ω A H [] []
  | cons {v : V} {vs : List V} {d : D} {ds : List D} : RV Ω A H v d → RVs Ω A H vs ds → RVs Ω A H (v :: vs) (d :: ds)
end

/-- what an object is -/
def RO (Ω : Wd) (A : List Addr) (H : Hp) (a : Addr) : MO → Prop
  | .lst ds => ∃ xs, H a = some (.lst xs) ∧ RVs Ω A H xs ds
  | .frz ds => ∃ o xs, H a = some (.frz o (.lst xs)) ∧ RVs Ω A H xs ds
  | .ins c fs => ∃ dx vs, H a = some (.ins (Ω.ca c) dx vs) ∧ vs.map (·.1) = fs.map (·.1) ∧ RVs Ω A H (vs.map (·.2)) (fs.map (·.2))
  | .dct _ => False

structure Rl (Ω : Wd) (A : List Addr) (m : M) (H : Hp) : Prop where
  len : A.length = m.length
  nd : A.Nodup
  obj : ∀ (l : Nat) (o : MO) (a : Addr), m[l]? = some o → A[l]? = some a → RO Ω A H a o

/-- slots -/
structure RS (Ω : Wd) (A : List Addr) (H : Hp) (σd : Sl) (σ : L2.St) : Prop where
  len : σd.length = σ.length
  at_ : ∀ (i : Nat) (d : D), σd[i]? = some (some d) → ∃ v, σ[i]? = some (some v) ∧ RV Ω A H v d

/-- later: what stands at no place stays -/
structure Le (A : List Addr) (H : Hp) (A' : List Addr) (H' : Hp) : Prop where
  pre : ∃ B, A' = A ++ B
  keep : ∀ a o, H a = some o → a ∉ A → (∀ ps, o ≠ .tbl ps) → H' a = some o
  new : ∀ a ∈ A', a ∈ A ∨ H a = none
  there : ∀ a, H' a = none → H a = none
theorem Le.refl (A : List Addr) (H : Hp) : Le A H A H := ⟨⟨[], by simp⟩, fun _ _ h _ _ => h, fun _ h => .inl h, fun _ h => h⟩
theorem Le.notin {A A' : List Addr} {H H' : Hp} (h : Le A H A' H') {a : Addr} {o : HO} (e : H a = some o) (n : a ∉ A) : a ∉ A' := fun hm => by
  rcases h.new a hm with q | q
  · exact n q
  · rw [q] at e; cases e
theorem Le.trans {A A1 A2 : List Addr} {H H1 H2 : Hp} (a : Le A H A1 H1) (b : Le A1 H1 A2 H2) : Le A H A2 H2 := by
  obtain ⟨B, rfl⟩ := a.pre
  obtain ⟨C, rfl⟩ := b.pre
  refine ⟨⟨B ++ C, by simp⟩, fun x o e n t => ?_, fun x hx => ?_, fun x e => a.there x (b.there x e)⟩
  · exact b.keep x o (a.keep x o e n t) (a.notin e n) t
  · rcases b.new x hx with q | q
    · exact a.new x q
    · exact .inr (a.there x q)
theorem Le.get {A A' : List Addr} {H H' : Hp} (h : Le A H A' H') {l : Nat} {a : Addr} (e : A[l]? = some a) : A'[l]? = some a := by
  obtain ⟨B, rfl⟩ := h.pre
  have hl : l < A.length := (List.getElem?_eq_some_iff.mp e).1
  rw [List.getElem?_append_left hl]; exact e
/-- a new object that stands at no place -/
theorem Le.made {A : List Addr} {H : Hp} {p : Addr} {o : HO} (hp : H p = none) : Le A H A (upd H p o) :=
  ⟨⟨[], by simp⟩, fun a u e n t => by rw [upd_ne (ne_of_none e hp)]; exact e, fun _ h => .inl h, fun a e => by
    by_cases hb : a = p
    · rw [hb]; exact hp
    · rw [upd_ne hb] at e; exact e⟩
/-- a new object at the next place -/
theorem Le.laid {A : List Addr} {H : Hp} {p : Addr} {o : HO} (hp : H p = none) : Le A H (A ++ [p]) (upd H p o) :=
  ⟨⟨[p], rfl⟩, fun a u e n t => by rw [upd_ne (ne_of_none e hp)]; exact e, fun a h => by
    rcases List.mem_append.mp h with q | q
    · exact .inl q
    · simp at q; rw [q]; exact .inr hp, fun a e => by
    by_cases hb : a = p
    · rw [hb]; exact hp
    · rw [upd_ne hb] at e; exact e⟩
/-- an object at a place is changed -/
theorem Le.put {A : List Addr} {H : Hp} {p : Addr} {o : HO} (hp : p ∈ A) : Le A H A (upd H p o) :=
  ⟨⟨[], by simp⟩, fun a u e n t => by rw [upd_ne (fun z : a = p => n (by rw [z]; exact hp))]; exact e, fun _ h => .inl h, fun a e => by
    by_cases hb : a = p
    · subst hb; rw [upd_same] at e; cases e
    · rw [upd_ne hb] at e; exact e⟩
section
variable {Ω : Wd} {A A' : List Addr} {H H' : Hp}
theorem SqT.le {K : PySem.W.Frag} {a : Addr} {xs : List V} (h : SqT K H a xs) (le : Le A H A' H') (n : a ∉ A) : SqT K H' a xs := by
  rcases h with (h | ⟨o, h⟩) | h
  · exact .inl (.inl (le.keep _ _ h n fun _ z => by cases z))
  · exact .inl (.inr ⟨o, le.keep _ _ h n fun _ z => by cases z⟩)
  · exact .inr h
theorem SqL.le {K : PySem.W.Frag} {a : Addr} {xs : List V} (h : SqL K H a xs) (le : Le A H A' H') (n : a ∉ A) : SqL K H' a xs := by
  rcases h with (h | ⟨o, h⟩) | h
  · exact .inl (.inl (le.keep _ _ h n fun _ z => by cases z))
  · exact .inl (.inr ⟨o, le.keep _ _ h n fun _ z => by cases z⟩)
  · exact .inr h
theorem Rd.le {a : Addr} {u : HO} (h : Rd H a u) (le : Le A H A' H') (n : a ∉ A) (t : ∀ ps, u ≠ .tbl ps) : Rd H' a u := by
  rcases h with h | ⟨o, h⟩
  · exact .inl (le.keep _ _ h n t)
  · exact .inr ⟨o, le.keep _ _ h n fun _ z => by cases z⟩
theorem Rd.out {a : Addr} {u : HO} (h : Rd H a u) (le : Le A H A' H') (n : a ∉ A) : a ∉ A' := by
  rcases h with h | ⟨o, h⟩
  · exact le.notin h n
  · exact le.notin h n
theorem sqt_of_K {K : PySem.W.Frag} {a : Addr} {xs : List V} (h : SqT K (fun _ => none) a xs) : SqT K H a xs := by
  rcases h with (h | ⟨o, h⟩) | h
  · cases h
  · cases h
  · exact .inr h
mutual
theorem RV.mono (le : Le A H A' H') : ∀ {v : V} {d : D}, RV Ω A H v d → RV Ω A' H' v d
  | _, _, .non => .non
  | _, _, .bl b => .bl b
  | _, _, .int i => .int i
  | _, _, .str s => .str s
  | _, _, .ty n => .ty n
  | _, _, .tup h n r => .tup (Rd.le h le n fun _ z => by cases z) (Rd.out h le n) (RVs.mono le r)
  | _, _, .tupK h r => .tupK h (RVs.mono le r)
  | _, _, .loc e => .loc (le.get e)
  | _, _, .fn k => .fn k
  | _, _, .cls k => .cls k
theorem RVs.mono (le : Le A H A' H') : ∀ {vs : List V} {ds : List D}, RVs Ω A H vs ds → RVs Ω A' H' vs ds
  | _, _, .nil => .nil
  | _, _, .cons r t => .cons (RV.mono le r) (RVs.mono le t)
end
theorem RVs.length : ∀ {vs : List V} {ds : List D}, RVs Ω A H vs ds → vs.length = ds.length
  | _, _, .nil => rfl
  | _, _, .cons _ t => congrArg (· + 1) (RVs.length t)
theorem RVs.append : ∀ {vs ws : List V} {ds es : List D}, RVs Ω A H vs ds → RVs Ω A H ws es → RVs Ω A H (vs ++ ws) (ds ++ es)
  | _, _, _, _, .nil, s => s
  | _, _, _, _, .cons r t, s => .cons r (RVs.append t s)
theorem RVs.get : ∀ {vs : List V} {ds : List D} {i : Nat} {d : D}, RVs Ω A H vs ds → ds[i]? = some d → ∃ v, vs[i]? = some v ∧ RV Ω A H v d
  | _, _, _, _, .nil, e => by simp at e
  | _, _, 0, _, .cons r _, e => by simp at e; subst e; exact ⟨_, rfl, r⟩
  | _, _, i + 1, d, .cons _ t, e => by
    obtain ⟨v, h1, h2⟩ := RVs.get (i := i) (d := d) t (by simpa using e)
    exact ⟨v, by simpa using h1, h2⟩
theorem RVs.set {v : V} {d : D} (r : RV Ω A H v d) : ∀ {vs : List V} {ds : List D} (i : Nat), RVs Ω A H vs ds → RVs Ω A H (vs.set i v) (ds.set i d)
  | _, _, _, .nil => .nil
  | _, _, 0, .cons _ t => .cons r t
  | _, _, i + 1, .cons q t => .cons q (RVs.set r i t)
theorem RVs.take : ∀ {vs : List V} {ds : List D} (n : Nat), RVs Ω A H vs ds → RVs Ω A H (vs.take n) (ds.take n)
  | _, _, 0, _ => by simpa using RVs.nil
  | _, _, _ + 1, .nil => .nil
  | _, _, n + 1, .cons r t => .cons r (RVs.take n t)
theorem RVs.drop : ∀ {vs : List V} {ds : List D} (n : Nat), RVs Ω A H vs ds → RVs Ω A H (vs.drop n) (ds.drop n)
  | _, _, 0, r => r
  | _, _, _ + 1, .nil => .nil
  | _, _, n + 1, .cons _ t => RVs.drop n t
theorem RVs.reverse : ∀ {vs : List V} {ds : List D}, RVs Ω A H vs ds → RVs Ω A H vs.reverse ds.reverse
  | _, _, .nil => .nil
  | _, _, .cons r t => by simpa using (RVs.reverse t).append (.cons r .nil)
theorem RVs.rep {vs : List V} {ds : List D} (h : RVs Ω A H vs ds) : ∀ k : Nat, RVs Ω A H (List.replicate k vs).flatten (List.replicate k ds).flatten
  | 0 => by simpa using RVs.nil
  | k + 1 => by
    rw [List.replicate_succ, List.replicate_succ, List.flatten_cons, List.flatten_cons]
    exact h.append (RVs.rep h k)
theorem RVs.nil_iff {vs : List V} {ds : List D} (h : RVs Ω A H vs ds) : vs = [] ↔ ds = [] := by
  cases h <;> simp
theorem RO.mono {a : Addr} {o : MO} (le : Le A H A' H') (h : RO Ω A H a o) (e : H' a = H a) : RO Ω A' H' a o := by
  cases o with
  | lst ds => obtain ⟨xs, h1, h2⟩ := h; exact ⟨xs, by rw [e]; exact h1, h2.mono le⟩
  | frz ds => obtain ⟨o, xs, h1, h2⟩ := h; exact ⟨o, xs, by rw [e]; exact h1, h2.mono le⟩
  | ins c fs => obtain ⟨dx, vs, h1, h2, h3⟩ := h; exact ⟨dx, vs, by rw [e]; exact h1, h2, h3.mono le⟩
  | dct _ => exact h
theorem RO.there {a : Addr} {o : MO} (h : RO Ω A H a o) : H a ≠ none := by
  cases o with
  | lst ds => obtain ⟨xs, h1, h2⟩ := h; rw [h1]; simp
  | frz ds => obtain ⟨o, xs, h1, h2⟩ := h; rw [h1]; simp
  | ins c fs => obtain ⟨dx, vs, h1, h2, h3⟩ := h; rw [h1]; simp
  | dct _ => exact h.elim
variable {m : M}
theorem Rl.at_ (r : Rl Ω A m H) {l : Nat} {o : MO} (e : m[l]? = some o) : ∃ a, A[l]? = some a ∧ RO Ω A H a o := by
  have hl : l < A.length := by rw [r.len]; exact (List.getElem?_eq_some_iff.mp e).1
  exact ⟨A[l], List.getElem?_eq_getElem hl, r.obj l o _ e (List.getElem?_eq_getElem hl)⟩
theorem Rl.tracked (r : Rl Ω A m H) {a : Addr} (h : a ∈ A) : H a ≠ none := by
  obtain ⟨l, hl, e⟩ := List.getElem_of_mem h
  have hm : l < m.length := by rw [← r.len]; exact hl
  exact (r.obj l m[l] a (List.getElem?_eq_getElem hm) (by rw [List.getElem?_eq_getElem hl, e])).there
theorem Rl.notin (r : Rl Ω A m H) {p : Addr} (h : H p = none) : p ∉ A := fun q => r.tracked q h
/-- a new object at no place -/
theorem Rl.made (r : Rl Ω A m H) {p : Addr} {o : HO} (hp : H p = none) : Rl Ω A m (upd H p o) := by
  refine ⟨r.len, r.nd, fun l u a e1 e2 => ?_⟩
  have h := r.obj l u a e1 e2
  exact h.mono (Le.made hp) (upd_ne (fun z => h.there (by rw [z]; exact hp)))
/-- a new object at the next place -/
theorem Rl.laid (r : Rl Ω A m H) {p : Addr} {o : HO} {u : MO} (hp : H p = none) (h : RO Ω (A ++ [p]) (upd H p o) p u) : Rl Ω (A ++ [p]) (m ++ [u]) (upd H p o) := by
  refine ⟨by simp [r.len], ?_, fun l w a e1 e2 => ?_⟩
  · rw [List.nodup_append]
    exact ⟨r.nd, by simp, fun a ha b hb => by simp at hb; subst hb; exact fun z => r.notin hp (z ▸ ha)⟩
  · by_cases hl : l < m.length
    · rw [List.getElem?_append_left hl] at e1
      rw [List.getElem?_append_left (by rw [r.len]; exact hl)] at e2
      have q := r.obj l w a e1 e2
      exact q.mono (Le.laid hp) (upd_ne (fun z => q.there (by rw [z]; exact hp)))
    · have hl' : m.length ≤ l := by omega
      rw [List.getElem?_append_right hl'] at e1
      rw [List.getElem?_append_right (by rw [r.len]; exact hl'), r.len] at e2
      have h0 : l - m.length = 0 := by
        have := (List.getElem?_eq_some_iff.mp e1).1
        simp at this; omega
      rw [h0] at e1 e2
      simp at e1 e2
      subst e1 e2
      exact h
theorem nodup_at {N : List Addr} (hN : N.Nodup) {i j : Nat} {x : Addr} (a : N[i]? = some x) (b : N[j]? = some x) : i = j := by
  obtain ⟨h1, e1⟩ := List.getElem?_eq_some_iff.mp a
  obtain ⟨h2, e2⟩ := List.getElem?_eq_some_iff.mp b
  exact (List.getElem_inj hN).mp (e1.trans e2.symm)
/-- an object is changed -/
theorem Rl.put (r : Rl Ω A m H) {l : Nat} {p : Addr} {o : HO} {u : MO} (e : A[l]? = some p) (h : RO Ω A (upd H p o) p u) : Rl Ω A (m.set l u) (upd H p o) := by
  have hp : p ∈ A := List.mem_of_getElem? e
  refine ⟨by simp [r.len], r.nd, fun k w a e1 e2 => ?_⟩
  by_cases hk : k = l
  · subst hk
    rw [e] at e2; cases e2
    have hl : k < m.length := by rw [← r.len]; exact (List.getElem?_eq_some_iff.mp e).1
    rw [List.getElem?_set_self hl] at e1
    cases e1
    exact h
  · rw [List.getElem?_set_ne (Ne.symm hk)] at e1
    have q := r.obj k w a e1 e2
    have ne : a ≠ p := fun z => hk (nodup_at r.nd (z ▸ e2) e)
    exact q.mono (Le.put hp) (upd_ne ne)
theorem RS.mono {σd : Sl} {σ : L2.St} (le : Le A H A' H') (r : RS Ω A H σd σ) : RS Ω A' H' σd σ :=
  ⟨r.len, fun i d e => let ⟨v, h1, h2⟩ := r.at_ i d e; ⟨v, h1, h2.mono le⟩⟩
theorem RS.set {σd : Sl} {σ : L2.St} (r : RS Ω A H σd σ) {i : Nat} {v : V} {d : D} (h : RV Ω A H v d) : RS Ω A H (σd.set i (some d)) (σ.set i (some v)) := by
  refine ⟨by simp [r.len], fun j e hj => ?_⟩
  by_cases hij : i = j
  · subst hij
    by_cases hl : i < σd.length
    · rw [List.getElem?_set_self hl] at hj
      cases hj
      exact ⟨v, List.getElem?_set_self (by rw [← r.len]; exact hl), h⟩
    · rw [List.getElem?_eq_none (by simp; omega)] at hj; cases hj
  · rw [List.getElem?_set_ne hij] at hj ⊢
    exact r.at_ j e hj
theorem RS.wipe1 {σd : Sl} {σ : L2.St} (r : RS Ω A H σd σ) (i : Nat) : RS Ω A H (σd.set i none) (σ.set i none) := by
  refine ⟨by simp [r.len], fun j e hj => ?_⟩
  by_cases hij : i = j
  · subst hij
    by_cases hl : i < σd.length
    · rw [List.getElem?_set_self hl] at hj; cases hj
    · rw [List.getElem?_eq_none (by simp; omega)] at hj; cases hj
  · rw [List.getElem?_set_ne hij] at hj ⊢
    exact r.at_ j e hj
theorem RS.wipe : ∀ (is : List Nat) {σd : Sl} {σ : L2.St}, RS Ω A H σd σ → RS Ω A H (wipeD σd is) (L2.wipe σ is)
  | [], _, _, r => r
  | i :: is, _, _, r => (RS.wipe is r).wipe1 i
/-- what may be read as a sequence -/
theorem RV.items (r : Rl Ω A m H) {v : V} {d : D} {ds : List D} (h : RV Ω A H v d) (e : Ev.items m d = some ds) : ∃ a xs, v = .ref a ∧ (SqL Ω.K H a xs ∨ SqT Ω.K H a xs) ∧ RVs Ω A H xs ds := by
  cases h with
  | tup h n q => cases e; exact ⟨_, _, rfl, .inr (.inl h), q⟩
  | tupK h q => cases e; exact ⟨_, _, rfl, .inr (sqt_of_K h), q⟩
  | loc e2 =>
    rename_i a l
    cases hm : m[l]? with
    | none => simp [Ev.items, hm] at e
    | some o =>
      have q := r.obj l o a hm e2
      cases o with
      | lst es =>
        simp [Ev.items, hm] at e; subst e
        obtain ⟨xs, h1, h2⟩ := q
        exact ⟨a, xs, rfl, .inl (.inl (.inl h1)), h2⟩
      | frz es =>
        simp [Ev.items, hm] at e; subst e
        obtain ⟨o, xs, h1, h2⟩ := q
        exact ⟨a, xs, rfl, .inl (.inl (.inr ⟨o, h1⟩)), h2⟩
      | ins c fs => simp [Ev.items, hm] at e
      | dct _ => exact q.elim
  | _ => cases e
end
end Ev
set_option Elab.async false
set_option linter.all false
set_option maxRecDepth 100000
/-! EvC: readings of my expressions; the layer's rules meet them. -/
namespace Ev
open PySem PySem.Spec PyProof.Rows L2

/-- an exception as it flies -/
def RX (Ω : Wd) (A : List Addr) (H : Hp) (x : XD) (cls : Value) (dx : Option Addr) : Prop :=
  cls = .ref (Ω.ca x.c) ∧ match x.fs with
    | [] => dx = none
    | fs => ∃ d vs, dx = some d ∧ H d = some (.xd vs) ∧ d ∉ A ∧ vs.map (·.1) = fs.map (·.1) ∧ RVs Ω A H (vs.map (·.2)) (fs.map (·.2))

/-- an outcome is good for what is wanted -/
def Gd {α : Type} (Ω : Wd) (W : WX) (σ : L2.St) (A : List Addr) (H : Hp) (r : R α) (P : α → M → List Addr → Hp → Prop) : Prop :=
  match r with
  | .ok a m' => ∀ A' H', Le A H A' H' → Rl Ω A' m' H' → P a m' A' H'
  | .exc x m' => ∀ A' H' cls dx, Le A H A' H' → Rl Ω A' m' H' → RX Ω A' H' x cls dx → W cls dx σ H'
  | .stuck => False
section
variable {α β : Type} {Ω : Wd} {W : WX} {σ : L2.St} {A : List Addr} {H : Hp} {r : R α} {P P' : α → M → List Addr → Hp → Prop}
theorem Gd.le {A1 : List Addr} {H1 : Hp} (g : Gd Ω W σ A H r P) (le : Le A H A1 H1) : Gd Ω W σ A1 H1 r P := by
  cases r with
  | ok a m => exact fun A' H' l rl => g A' H' (le.trans l) rl
  | exc x m => exact fun A' H' c d l rl rx => g A' H' c d (le.trans l) rl rx
  | stuck => exact g
theorem Gd.imp (g : Gd Ω W σ A H r P) (h : ∀ a m' A' H', Le A H A' H' → Rl Ω A' m' H' → P a m' A' H' → P' a m' A' H') : Gd Ω W σ A H r P' := by
  cases r with
  | ok a m => exact fun A' H' l rl => h a m A' H' l rl (g A' H' l rl)
  | exc x m => exact g
  | stuck => exact g
theorem Gd.bind {k : α → M → R β} {P : β → M → List Addr → Hp → Prop} (g : Gd Ω W σ A H (r.bind k) P) : Gd Ω W σ A H r fun a m1 A1 H1 => Gd Ω W σ A1 H1 (k a m1) P := by
  cases r with
  | ok a m => exact fun A' H' l rl => Gd.le (r := k a m) g l
  | exc x m => exact g
  | stuck => exact g
theorem Gd.ok {a : α} {m : M} (g : Gd Ω W σ A H (.ok a m) P) (rl : Rl Ω A m H) : P a m A H := g A H (Le.refl A H) rl
theorem Gd.ofO {o : Option α} {m : M} {k : α → M → R β} {P : β → M → List Addr → Hp → Prop} (g : Gd Ω W σ A H ((ofO o m).bind k) P) : ∃ a, o = some a ∧ Gd Ω W σ A H (k a m) P := by
  cases o with
  | none => exact g.elim
  | some a => exact ⟨a, rfl, g⟩
theorem Gd.ofO1 {o : Option α} {m : M} (g : Gd Ω W σ A H (Ev.ofO o m) P) : ∃ a, o = some a ∧ Gd Ω W σ A H (.ok a m) P := by
  cases o with
  | none => exact g.elim
  | some a => exact ⟨a, rfl, g⟩
end

/-- what is wanted of a value -/
abbrev pV (Ω : Wd) (Q : VK) : D → M → List Addr → Hp → Prop := fun d _ A' H' => ∀ v, RV Ω A' H' v d → Q v H'
abbrev pL (Ω : Wd) (Q : List V → Hp → Prop) : List D → M → List Addr → Hp → Prop := fun ds _ A' H' => ∀ vs, RVs Ω A' H' vs ds → Q vs H'
/-- readings -/
def tE (Ω : Wd) (W : WX) (f : Sl → M → R D) : TE := fun σ H Q => ∃ A m σd, Rl Ω A m H ∧ RS Ω A H σd σ ∧ Gd Ω W σ A H (f σd m) (pV Ω Q)
def tA (Ω : Wd) (W : WX) (f : Sl → M → R (List D)) : TA := fun σ H Q => ∃ A m σd, Rl Ω A m H ∧ RS Ω A H σd σ ∧ Gd Ω W σ A H (f σd m) (pL Ω Q)
def tB' (Ω : Wd) (W : WX) (f : Sl → M → R Bool) : TT := fun σ H Q => ∃ A m σd, Rl Ω A m H ∧ RS Ω A H σd σ ∧ Gd Ω W σ A H (f σd m) fun b _ _ H' => Q b H'
def tO' (Ω : Wd) (W : WX) (f : Sl → M → R (Option Int)) : TO := fun σ H Q => ∃ A m σd, Rl Ω A m H ∧ RS Ω A H σd σ ∧ Gd Ω W σ A H (f σd m) fun b _ _ H' => Q b H'

theorem PE.imp {X : Cx} {e : Expr} {t t' : TE} (h : PE X e t) (i : ∀ σ H Q, t' σ H Q → t σ H Q) : PE X e t' := ⟨fun p s σ H Q I q => h.run p s σ H Q I (i σ H Q q)⟩
theorem PT.imp {X : Cx} {e : Expr} {t t' : TT} (h : PT X e t) (i : ∀ σ H Q, t' σ H Q → t σ H Q) : PT X e t' := ⟨fun p s σ H Q I q => h.run p s σ H Q I (i σ H Q q)⟩
theorem PW.imp {X : Cx} {e : Expr} {t t' : TT} (h : PW X e t) (i : ∀ σ H Q, t' σ H Q → t σ H Q) : PW X e t' := ⟨fun wh p s σ H Q I q => h.run wh p s σ H Q I (i σ H Q q)⟩
theorem PA.imp {X : Cx} {es : List Expr} {t t' : TA} (h : PA X es t) (i : ∀ σ H Q, t' σ H Q → t σ H Q) : PA X es t' := ⟨fun po p s σ H Q I q => h.run po p s σ H Q I (i σ H Q q)⟩
theorem PO.imp {X : Cx} {e : Option Expr} {t t' : TO} (h : PO X e t) (i : ∀ σ H Q, t' σ H Q → t σ H Q) : PO X e t' := ⟨fun p s σ H Q I q => h.run p s σ H Q I (i σ H Q q)⟩
theorem OpR.imp {X : Cx} {f : Value → Value → Sem Value} {r r' : R2} (h : OpR X f r) (i : ∀ x y H Q, r' x y H Q → r x y H Q) : OpR X f r' := fun p s σ H x y v u Q I rx ry q => h p s σ H x y v u Q I rx ry (i x y H Q q)

/-- from a value on -/
theorem tE.next {Ω : Wd} {W : WX} {f : Sl → M → R D} {β : Type} {k : Sl → D → M → R β} {σ : L2.St} {H : Hp} {P : β → M → List Addr → Hp → Prop} {A : List Addr} {m : M} {σd : Sl}
    (rl : Rl Ω A m H) (rs : RS Ω A H σd σ) (g : Gd Ω W σ A H ((f σd m).bind (k σd)) P) {Q : VK}
    (h : ∀ v H1 A1 m1 d, Le A H A1 H1 → Rl Ω A1 m1 H1 → RS Ω A1 H1 σd σ → RV Ω A1 H1 v d → Gd Ω W σ A1 H1 (k σd d m1) P → Q v H1) : tE Ω W f σ H Q :=
  ⟨A, m, σd, rl, rs, g.bind.imp fun d m1 A1 H1 le rl1 g1 v rv => h v H1 A1 m1 d le rl1 (rs.mono le) rv g1⟩
theorem tA.next {Ω : Wd} {W : WX} {f : Sl → M → R (List D)} {β : Type} {k : Sl → List D → M → R β} {σ : L2.St} {H : Hp} {P : β → M → List Addr → Hp → Prop} {A : List Addr} {m : M} {σd : Sl}
    (rl : Rl Ω A m H) (rs : RS Ω A H σd σ) (g : Gd Ω W σ A H ((f σd m).bind (k σd)) P) {Q : List V → Hp → Prop}
    (h : ∀ vs H1 A1 m1 ds, Le A H A1 H1 → Rl Ω A1 m1 H1 → RS Ω A1 H1 σd σ → RVs Ω A1 H1 vs ds → Gd Ω W σ A1 H1 (k σd ds m1) P → Q vs H1) : tA Ω W f σ H Q :=
  ⟨A, m, σd, rl, rs, g.bind.imp fun d m1 A1 H1 le rl1 g1 v rv => h v H1 A1 m1 d le rl1 (rs.mono le) rv g1⟩
theorem tB'.next {Ω : Wd} {W : WX} {f : Sl → M → R D} {β : Type} {k : Sl → D → Bool → M → R β} {σ : L2.St} {H : Hp} {P : β → M → List Addr → Hp → Prop} {A : List Addr} {m : M} {σd : Sl}
    (rl : Rl Ω A m H) (rs : RS Ω A H σd σ) (g : Gd Ω W σ A H ((f σd m).bind fun x m => (ofO (truth m x) m).bind (k σd x)) P) {Q : Bool → Hp → Prop}
    (h : ∀ b H1 A1 m1 d, Le A H A1 H1 → Rl Ω A1 m1 H1 → RS Ω A1 H1 σd σ → Gd Ω W σ A1 H1 (k σd d b m1) P → Q b H1) : tB' Ω W (tru f) σ H Q := by
  refine ⟨A, m, σd, rl, rs, ?_⟩
  unfold tru
  have g1 := g.bind
  cases e : f σd m with
  | stuck => rw [e] at g; exact g
  | exc x m' => rw [e] at g; exact g
  | ok d m' =>
    rw [e] at g1
    show Gd Ω W σ A H (ofO (truth m' d) m') _
    cases ht : truth m' d with
    | none =>
      have := g
      rw [e] at this
      change Gd Ω W σ A H ((ofO (truth m' d) m').bind (k σd d)) P at this
      rw [ht] at this
      exact this.elim
    | some b =>
      intro A' H' le rl'
      have g2 := g1 A' H' le rl'
      change Gd Ω W σ A' H' ((ofO (truth m' d) m').bind (k σd d)) P at g2
      rw [ht] at g2
      exact h b H' A' m' d le rl' (rs.mono le) g2
section
variable {X : Cx} {Ω : Wd} {W : WX} {N : List Str} {sc : Scope} {pos p : Pos}

/-! ### names and constants -/
theorem s_var {i : Nat} {x : Str} (hN : X.N[i]? = some x) (hv : Vis X.env.scope x) (hd : (x == ("__debug__" : Str)) = false) (hcd : (x == ("__classdict__" : Str)) = false) :
    PE X (.Name x pos) (tE Ω W fun σ m => ofO ((σ[i]?).join) m) := by
  refine PE.imp (pe_var hN hv hd hcd) fun σ H Q ⟨A, m, σd, rl, rs, g⟩ => ?_
  obtain ⟨d, e, g⟩ := g.ofO1
  have e2 : σd[i]? = some (some d) := by
    cases h : σd[i]? with
    | none => rw [h] at e; cases e
    | some o => rw [h] at e; simp at e; rw [e]
  obtain ⟨v, e1, rv⟩ := rs.at_ i d e2
  exact ⟨v, e1, g.ok rl v rv⟩
theorem s_lit {e : Expr} {v : V} {d : D} (h : PE X e (tC v)) (hr : ∀ A H, RV Ω A H v d) : PE X e (tE Ω W fun _ m => .ok d m) :=
  PE.imp h fun σ H Q ⟨A, m, σd, rl, rs, g⟩ => g.ok rl v (hr A H)

/-! ### operators -/
theorem RV.inv_int {A : List Addr} {H : Hp} {v : V} {i : Int} (h : RV Ω A H v (.int i)) : v = .int i := by cases h; rfl
theorem RV.inv_str {A : List Addr} {H : Hp} {v : V} {x : Str} (h : RV Ω A H v (.str x)) : v = .str x := by cases h; rfl
theorem RV.inv_bl {A : List Addr} {H : Hp} {v : V} {x : Bool} (h : RV Ω A H v (.bl x)) : v = .bl x := by cases h; rfl
theorem RV.inv_non {A : List Addr} {H : Hp} {v : V} (h : RV Ω A H v .non) : v = .non := by cases h; rfl
theorem RV.inv_tup {A : List Addr} {H : Hp} {v : V} {ds : List D} (h : RV Ω A H v (.tup ds)) : ∃ a xs, v = .ref a ∧ SqT Ω.K H a xs ∧ RVs Ω A H xs ds := by
  cases h with
  | tup h n q => exact ⟨_, _, rfl, .inl h, q⟩
  | tupK h q => exact ⟨_, _, rfl, sqt_of_K h, q⟩
theorem RV.inv_loc {A : List Addr} {H : Hp} {v : V} {l : Nat} (h : RV Ω A H v (.loc l)) : ∃ a, v = .ref a ∧ A[l]? = some a := by
  cases h with
  | loc e => exact ⟨_, rfl, e⟩
theorem Gd.newTup {σ : L2.St} {A : List Addr} {H : Hp} {ds : List D} {m : M} {Q : VK} (g : Gd Ω W σ A H (.ok (.tup ds) m) (pV Ω Q)) (rl : Rl Ω A m H) {xs : List V} (r : RVs Ω A H xs ds) {p : Addr} (hp : H p = none) : Q (.ref p) (upd H p (.tup xs)) :=
  g A _ (Le.made hp) (rl.made hp) _ (.tup (.inl upd_same) (rl.notin hp) (r.mono (Le.made hp)))
theorem Gd.newLst {σ : L2.St} {A : List Addr} {H : Hp} {ds : List D} {m : M} {Q : VK} (g : Gd Ω W σ A H (.ok (.loc m.length) (m ++ [.lst ds])) (pV Ω Q)) (rl : Rl Ω A m H) {xs : List V} (r : RVs Ω A H xs ds) {p : Addr} (hp : H p = none) : Q (.ref p) (upd H p (.lst xs)) :=
  g (A ++ [p]) _ (Le.laid hp) (rl.laid hp ⟨xs, upd_same, r.mono (Le.laid hp)⟩) _ (.loc (by rw [← rl.len]; simp))
theorem fits_le {n : Nat} (h : fits n = true) : n ≤ sizeLine := Nat.le_of_ble_eq_true h
theorem Rl.lstAt {A : List Addr} {H : Hp} {m : M} {l : Nat} {a : Addr} {ds : List D} (rl : Rl Ω A m H) (e : m[l]? = some (.lst ds)) (ea : A[l]? = some a) : ∃ xs, H a = some (.lst xs) ∧ RVs Ω A H xs ds := rl.obj l _ a e ea

def bopOf : Bop → Operator
  | .add => .Add | .sub => .Sub | .mul => .Mult | .fdiv => .FloorDiv | .mod => .Mod | .pow => .Pow
def rBin (Ω : Wd) (W : WX) (o : Bop) : R2 := fun v u H Q => ∃ A m x y σ, Rl Ω A m H ∧ RV Ω A H v x ∧ RV Ω A H u y ∧ Gd Ω W σ A H (binV o m x y) (pV Ω Q)

theorem bits_le (x : Int) : Builtin.Int.intBits x ≤ x.natAbs.log2 + 1 := by
  unfold Builtin.Int.intBits
  split <;> omega
theorem mulOk_ok {i j : Int} (h : mulOk i j = true) : IntMulOk i j := by
  have h1 := bits_le i
  have h2 := bits_le j
  have h3 : i.natAbs.log2 + j.natAbs.log2 ≤ 134217000 := Nat.le_of_ble_eq_true h
  have e : bitsLine = 134217728 := by decide
  unfold IntMulOk
  intro z
  rw [Bool.and_eq_true] at z
  have z2 := z.2
  unfold Builtin.Int.intTooBig at z2
  have z3 := of_decide_eq_true z2
  rw [e] at z3
  omega
theorem op_mulB : OpR X (binaryOp .Mult) (rI (fun i j => mulOk i j = true) fun i j => .int (i * j)) := opI fun _ _ _ _ _ _ _ hc q => mul_int q (mulOk_ok hc)
theorem op_powB : OpR X (binaryOp .Pow) (rI (fun i j => powOk i j = true) fun i j => .int (i ^ j.toNat)) := opI fun i j _ _ _ _ _ hc q => by
  unfold powOk at hc
  obtain ⟨h1, h2⟩ := Bool.and_eq_true_iff.mp hc
  have h0 := of_decide_eq_true h1
  have h3 := Nat.le_of_ble_eq_true h2
  refine pow_int h0 ?_ q
  have hb := bits_le i
  have e : j = (j.toNat : Int) := by omega
  rw [e]
  have : Builtin.Int.intBits i * j.toNat ≤ (i.natAbs.log2 + 1) * j.toNat := Nat.mul_le_mul_right _ hb
  have h4 : Builtin.Int.intBits i * j.toNat ≤ 134217728 := Nat.le_trans this h3
  have h5 : ((Builtin.Int.intBits i * j.toNat : Nat) : Int) ≤ ((134217728 : Nat) : Int) := Int.ofNat_le.mpr h4
  rw [Int.natCast_mul] at h5
  have e27 : (2 : Int) ^ 27 = ((134217728 : Nat) : Int) := by decide
  rw [e27]
  exact h5
theorem op_modB : OpR X (binaryOp .Mod) (rI (fun _ j => j ≠ 0) fun i j => .int (i.fmod j)) := op_modN
theorem op_fdivB : OpR X (binaryOp .FloorDiv) (rI (fun i j => j ≠ 0 ∧ Builtin.divisionGoesByPylong i j = false) fun i j => .int (i.fdiv j)) := opI fun _ _ _ _ _ _ _ hc q => floordiv_int hc.1 q (.inl hc.2)
theorem op_bin (hK : X.K = Ω.K) (o : Bop) : OpR X (binaryOp (bopOf o)) (rBin Ω W o) := by
  intro pins s σ H v u v' u' Q I rx ry h
  obtain ⟨A, m, x, y, σ', rl, rv, ru, g⟩ := h
  cases o <;> cases x <;> cases y <;> try exact g.elim
  case add.int.int i j =>
    cases rv.inv_int; cases ru.inv_int
    exact op_add pins s σ H _ _ v' u' Q I rx ry ⟨i, j, rfl, rfl, g.ok rl _ (.int _)⟩
  case add.str.str i j =>
    cases rv.inv_str; cases ru.inv_str
    dsimp only [binV] at g
    split at g
    · rename_i hf
      exact op_add_str pins s σ H _ _ v' u' Q I rx ry ⟨i, j, rfl, rfl, fits_le hf, g.ok rl _ (.str _)⟩
    · exact g.elim
  case add.tup.tup xs ys =>
    dsimp only [binV] at g
    split at g
    · rename_i hf
      obtain ⟨a, vs, rfl, ha, r1⟩ := rv.inv_tup
      obtain ⟨b, ws, rfl, hb, r2⟩ := ru.inv_tup
      refine op_catA pins s σ H _ _ v' u' Q I rx ry ⟨a, b, vs, ws, rfl, rfl, hK ▸ ha, hK ▸ hb, ?_, fun e => ?_, fun _ e => ?_, fun _ _ p hp => ?_⟩
      · rw [r1.length, r2.length]; exact fits_le hf
      · have e2 := r1.nil_iff.mp e
        subst e2
        exact g.ok rl _ ru
      · have e2 := r2.nil_iff.mp e
        subst e2
        rw [List.append_nil] at g
        exact g.ok rl _ rv
      · exact g.newTup rl (r1.append r2) hp
    · exact g.elim
  case add.loc.loc l k =>
    obtain ⟨a, rfl, ea⟩ := rv.inv_loc
    obtain ⟨b, rfl, eb⟩ := ru.inv_loc
    dsimp only [binV] at g
    split at g
    · rename_i xs ys e1 e2
      split at g
      · rename_i hf
        obtain ⟨vs, h1, r1⟩ := rl.lstAt e1 ea
        obtain ⟨ws, h2, r2⟩ := rl.lstAt e2 eb
        refine op_cat pins s σ H _ _ v' u' Q I rx ry ⟨a, b, vs, ws, rfl, rfl, h1, h2, ?_, fun p hp => ?_⟩
        · rw [r1.length, r2.length]; exact fits_le hf
        · exact g.newLst rl (r1.append r2) hp
      · exact g.elim
    · exact g.elim
  case sub.int.int i j =>
    cases rv.inv_int; cases ru.inv_int
    exact op_sub pins s σ H _ _ v' u' Q I rx ry ⟨i, j, rfl, rfl, g.ok rl _ (.int _)⟩
  case mul.int.int i j =>
    cases rv.inv_int; cases ru.inv_int
    dsimp only [binV] at g
    split at g
    · rename_i hf
      exact op_mulB pins s σ H _ _ v' u' Q I rx ry ⟨i, j, rfl, rfl, hf, g.ok rl _ (.int _)⟩
    · exact g.elim
  case mul.tup.int xs j =>
    dsimp only [binV] at g
    split at g
    · rename_i hf
      obtain ⟨a, vs, rfl, ha, r1⟩ := rv.inv_tup
      cases ru.inv_int
      simp only [Bool.and_eq_true, decide_eq_true_eq] at hf
      refine op_repT pins s σ H _ _ v' u' Q I rx ry ⟨a, j, vs, rfl, rfl, hK ▸ ha, ?_, hf.1.2, hf.2, ?_, fun p hp => ?_⟩
      · intro e; have := r1.nil_iff.mp e; subst this; simp at hf
      · rw [r1.length]; exact hf.1.1.2
      · exact g.newTup rl (r1.rep _) hp
    · exact g.elim
  case mul.loc.int l j =>
    obtain ⟨a, rfl, ea⟩ := rv.inv_loc
    cases ru.inv_int
    dsimp only [binV] at g
    split at g
    · rename_i xs e1
      split at g
      · rename_i hf
        obtain ⟨vs, h1, r1⟩ := rl.lstAt e1 ea
        simp only [Bool.and_eq_true, decide_eq_true_eq] at hf
        refine op_rep pins s σ H _ _ v' u' Q I rx ry ⟨a, j, vs, rfl, rfl, h1, hf.2, hf.1.2, ?_, fun p hp => ?_⟩
        · rw [r1.length]; exact fits_le hf.1.1
        · exact g.newLst rl (r1.rep _) hp
      · exact g.elim
    · exact g.elim
  case fdiv.int.int i j =>
    cases rv.inv_int; cases ru.inv_int
    dsimp only [binV] at g
    split at g
    · exact g.elim
    · rename_i hf
      simp only [Bool.or_eq_true, decide_eq_true_eq, not_or, Bool.not_eq_true] at hf
      exact op_fdivB pins s σ H _ _ v' u' Q I rx ry ⟨i, j, rfl, rfl, hf, g.ok rl _ (.int _)⟩
  case mod.int.int i j =>
    cases rv.inv_int; cases ru.inv_int
    dsimp only [binV] at g
    split at g
    · exact g.elim
    · rename_i hf
      exact op_modB pins s σ H _ _ v' u' Q I rx ry ⟨i, j, rfl, rfl, hf, g.ok rl _ (.int _)⟩
  case pow.int.int i j =>
    cases rv.inv_int; cases ru.inv_int
    dsimp only [binV] at g
    split at g
    · rename_i hf
      exact op_powB pins s σ H _ _ v' u' Q I rx ry ⟨i, j, rfl, rfl, hf, g.ok rl _ (.int _)⟩
    · exact g.elim

/-! ### comparisons -/
def copOf : Cop → CmpOp
  | .eq => .Eq | .ne => .NotEq | .lt => .Lt | .le => .LtE | .gt => .Gt | .ge => .GtE | .isn => .Is | .notn => .IsNot | .inn => .In | .notin => .NotIn
def rCmp (Ω : Wd) (W : WX) (o : Cop) : R2 := fun v u H Q => ∃ A m x y σ, Rl Ω A m H ∧ RV Ω A H v x ∧ RV Ω A H u y ∧ Gd Ω W σ A H (cmpV o m x y) (pV Ω Q)
mutual
theorem pyD_ok {A : List Addr} {m : M} {H : Hp} (rl : Rl Ω A m H) : ∀ (n : Nat) {v : V} {d : D} {p : PyData}, RV Ω A H v d → pyD m n d = some p → Dp Ω.K H v p
  | 0, _, _, _, _, e => by cases e
  | n + 1, v, d, p, r, e => by
    cases d with
    | non => cases r.inv_non; cases e; exact .non
    | bl b => cases r.inv_bl; cases e; exact .bl b
    | int i => cases r.inv_int; cases e; exact .int i
    | str x => cases r.inv_str; cases e; exact .str x
    | tup ds =>
      obtain ⟨a, xs, rfl, hs, q⟩ := r.inv_tup
      dsimp only [pyD] at e
      cases hp : ds.mapM (pyD m n) with
      | none => rw [hp] at e; cases e
      | some ps =>
        rw [hp] at e
        cases e
        exact .tup hs (pyDs_ok rl n q hp)
    | loc l =>
      obtain ⟨a, rfl, ea⟩ := r.inv_loc
      dsimp only [pyD] at e
      split at e
      · rename_i ds e1
        obtain ⟨xs, h1, q⟩ := rl.obj l _ a e1 ea
        cases hp : ds.mapM (pyD m n) with
        | none => rw [hp] at e; cases e
        | some ps =>
          rw [hp] at e
          cases e
          exact .lst (.inl (.inl h1)) (pyDs_ok rl n q hp)
      · rename_i ds e1
        obtain ⟨o, xs, h1, q⟩ := rl.obj l _ a e1 ea
        cases hp : ds.mapM (pyD m n) with
        | none => rw [hp] at e; cases e
        | some ps =>
          rw [hp] at e
          cases e
          exact .lst (.inl (.inr ⟨o, h1⟩)) (pyDs_ok rl n q hp)
      · cases e
    | ty _ => cases e
    | fn _ => cases e
    | cls _ => cases e
    | lam _ _ => cases e
theorem pyDs_ok {A : List Addr} {m : M} {H : Hp} (rl : Rl Ω A m H) : ∀ (n : Nat) {vs : List V} {ds : List D} {ps : List PyData}, RVs Ω A H vs ds → ds.mapM (pyD m n) = some ps → DpAll Ω.K H vs ps
  | n, [], [], ps, _, e => by
    have : ps = [] := by simpa using e.symm
    subst this; exact .nil
  | n, v :: vs, d :: ds, ps, .cons r q, e => by
    rw [List.mapM_cons] at e
    cases hd : pyD m n d with
    | none => rw [hd] at e; cases e
    | some p =>
      rw [hd] at e
      cases hp : ds.mapM (pyD m n) with
      | none => rw [hp] at e; cases e
      | some qs =>
        rw [hp] at e
        have : ps = p :: qs := by simpa using e.symm
        subst this
        exact .cons (pyD_ok rl n r hd) (pyDs_ok rl n q hp)
end
theorem eqD_ok {A : List Addr} {m : M} {H : Hp} (rl : Rl Ω A m H) {v u : V} {x y : D} {b : Bool} (rv : RV Ω A H v x) (ru : RV Ω A H u y) (e : eqD m x y = some b) :
    ∃ p q, Dp Ω.K H v p ∧ Dp Ω.K H u q ∧ SeqAt.shaped p = true ∧ SeqAt.shaped q = true ∧ PyData.eqv p q = b := by
  unfold eqD at e
  split at e
  · rename_i p q e1 e2
    split at e
    · rename_i hs
      simp only [Bool.and_eq_true] at hs
      cases e
      exact ⟨p, q, pyD_ok rl 40 rv e1, pyD_ok rl 40 ru e2, hs.1, hs.2, rfl⟩
    · cases e
  · cases e
theorem flatD_ok {A : List Addr} {H : Hp} {v w : V} {d : D} (r : RV Ω A H v d) (e : flatD d = some w) : w = v ∧ flatV v = true := by
  cases d <;> cases e
  · cases r.inv_non; exact ⟨rfl, rfl⟩
  · cases r.inv_bl; exact ⟨rfl, rfl⟩
  · cases r.inv_int; exact ⟨rfl, rfl⟩
  · cases r.inv_str; exact ⟨rfl, rfl⟩
theorem flatDs_ok {A : List Addr} {H : Hp} : ∀ {vs ws : List V} {ds : List D}, RVs Ω A H vs ds → ds.mapM flatD = some ws → ws = vs ∧ vs.all flatV = true
  | [], ws, [], _, e => by
    have : ws = [] := by simpa using e.symm
    subst this; exact ⟨rfl, rfl⟩
  | v :: vs, ws, d :: ds, .cons r q, e => by
    rw [List.mapM_cons] at e
    cases hd : flatD d with
    | none => rw [hd] at e; cases e
    | some p =>
      rw [hd] at e
      cases hp : ds.mapM flatD with
      | none => rw [hp] at e; cases e
      | some qs =>
        rw [hp] at e
        have : ws = p :: qs := by simpa using e.symm
        subst this
        obtain ⟨e1, f1⟩ := flatD_ok r hd
        obtain ⟨e2, f2⟩ := flatDs_ok q hp
        subst e1 e2
        exact ⟨rfl, by simp [f1, f2]⟩
theorem inD_ok {A : List Addr} {m : M} {H : Hp} (rl : Rl Ω A m H) {v u : V} {x y : D} {b : Bool} (rv : RV Ω A H v x) (ru : RV Ω A H u y) (e : inD m x y = some b) :
    (∃ i j, v = .str i ∧ u = .str j ∧ b = !(Builtin.Str.occurrences j i 0 j.length 1).isEmpty) ∨ (∃ p xs, u = .ref p ∧ (SqL Ω.K H p xs ∨ SqT Ω.K H p xs) ∧ flatV v = true ∧ xs.all flatV = true ∧ b = inV v xs) := by
  unfold inD at e
  split at e
  · split at e
    · cases rv.inv_str; cases ru.inv_str; cases e
      exact .inl ⟨_, _, rfl, rfl, rfl⟩
    · cases e
  · split at e
    · rename_i ds w e1 e2
      obtain ⟨a, xs, rfl, hs, q⟩ := ru.items rl e1
      obtain ⟨rfl, f1⟩ := flatD_ok rv e2
      cases hp : ds.mapM flatD with
      | none => rw [hp] at e; cases e
      | some ws =>
        rw [hp] at e
        obtain ⟨rfl, f2⟩ := flatDs_ok q hp
        cases e
        exact .inr ⟨a, _, rfl, hs, f1, f2, rfl⟩
    · cases e
theorem op_cmp (hK : X.K = Ω.K) (hu : X.A.units + 64 < cLine) (o : Cop) : OpR X (compareOp (copOf o)) (rCmp Ω W o) := by
  intro pins s σ H v u v' u' Q I rx ry h
  obtain ⟨A, m, x, y, σ', rl, rv, ru, g⟩ := h
  have fin : ∀ {b : Bool}, Gd Ω W σ' A H (.ok (.bl b) m) (pV Ω Q) → Q (.bl b) H := fun g => g.ok rl _ (.bl _)
  cases o
  case eq =>
    have h : (∃ i j, x = .int i ∧ y = .int j) ∨ (∃ i j, x = .str i ∧ y = .str j) ∨ Gd Ω W σ' A H ((ofO (eqD m x y) m).bind fun c m => .ok (.bl c) m) (pV Ω Q) := by
      cases x <;> cases y <;> first | exact .inl ⟨_, _, rfl, rfl⟩ | exact .inr (.inl ⟨_, _, rfl, rfl⟩) | exact .inr (.inr g)
    rcases h with ⟨i, j, rfl, rfl⟩ | ⟨i, j, rfl, rfl⟩ | g
    · cases rv.inv_int; cases ru.inv_int
      refine op_eq pins s σ H _ _ v' u' Q I rx ry ⟨rfl, ?_⟩
      have e : decide (V.int i = V.int j) = decide (i = j) := by rw [dec_int]; by_cases h : i = j <;> simp [h]
      rw [e]; exact fin g
    · cases rv.inv_str; cases ru.inv_str
      refine op_eq pins s σ H _ _ v' u' Q I rx ry ⟨rfl, ?_⟩
      have e : decide (V.str i = V.str j) = decide (i = j) := by rw [dec_str]; by_cases h : i = j <;> simp [h]
      rw [e]; exact fin g
    · obtain ⟨b, e, g⟩ := g.ofO
      obtain ⟨p, q, h1, h2, h3, h4, rfl⟩ := eqD_ok rl rv ru e
      exact op_eqD hu pins s σ H _ _ v' u' Q I rx ry ⟨p, q, hK ▸ h1, hK ▸ h2, h3, h4, fin g⟩
  case ne =>
    have h : (∃ i j, x = .int i ∧ y = .int j) ∨ (∃ i j, x = .str i ∧ y = .str j) ∨ Gd Ω W σ' A H ((ofO (eqD m x y) m).bind fun c m => .ok (.bl (!c)) m) (pV Ω Q) := by
      cases x <;> cases y <;> first | exact .inl ⟨_, _, rfl, rfl⟩ | exact .inr (.inl ⟨_, _, rfl, rfl⟩) | exact .inr (.inr g)
    rcases h with ⟨i, j, rfl, rfl⟩ | ⟨i, j, rfl, rfl⟩ | g
    · cases rv.inv_int; cases ru.inv_int
      refine op_ne pins s σ H _ _ v' u' Q I rx ry ⟨rfl, ?_⟩
      have e : decide (V.int i = V.int j) = decide (i = j) := by rw [dec_int]; by_cases h : i = j <;> simp [h]
      rw [e]; exact fin g
    · cases rv.inv_str; cases ru.inv_str
      refine op_ne pins s σ H _ _ v' u' Q I rx ry ⟨rfl, ?_⟩
      have e : decide (V.str i = V.str j) = decide (i = j) := by rw [dec_str]; by_cases h : i = j <;> simp [h]
      rw [e]; exact fin g
    · obtain ⟨b, e, g⟩ := g.ofO
      obtain ⟨p, q, h1, h2, h3, h4, rfl⟩ := eqD_ok rl rv ru e
      exact op_neD hu pins s σ H _ _ v' u' Q I rx ry ⟨p, q, hK ▸ h1, hK ▸ h2, h3, h4, fin g⟩
  case inn =>
    have g : Gd Ω W σ' A H ((ofO (inD m x y) m).bind fun c m => .ok (.bl c) m) (pV Ω Q) := by cases x <;> cases y <;> exact g
    obtain ⟨b, e, g⟩ := g.ofO
    rcases inD_ok rl rv ru e with ⟨i, j, rfl, rfl, rfl⟩ | ⟨p, xs, rfl, hs, f1, f2, rfl⟩
    · exact op_in_str pins s σ H _ _ v' u' Q I rx ry ⟨i, j, rfl, rfl, fin g⟩
    · exact op_in_seq pins s σ H _ _ v' u' Q I rx ry ⟨p, xs, rfl, hK ▸ hs, f1, f2, fin g⟩
  case notin =>
    have g : Gd Ω W σ' A H ((ofO (inD m x y) m).bind fun c m => .ok (.bl (!c)) m) (pV Ω Q) := by cases x <;> cases y <;> exact g
    obtain ⟨b, e, g⟩ := g.ofO
    rcases inD_ok rl rv ru e with ⟨i, j, rfl, rfl, rfl⟩ | ⟨p, xs, rfl, hs, f1, f2, rfl⟩
    · exact L2.op_notIn_str pins s σ H _ _ v' u' Q I rx ry ⟨i, j, rfl, rfl, fin g⟩
    · exact op_notIn_seq pins s σ H _ _ v' u' Q I rx ry ⟨p, xs, rfl, hK ▸ hs, f1, f2, fin g⟩
  case isn =>
    have hy : y = .non := by cases y <;> first | rfl | (cases x <;> exact g.elim)
    subst hy
    cases ru.inv_non
    refine op_isN pins s σ H _ _ v' u' Q I rx ry ⟨rfl, ?_⟩
    have e : decide (v = V.non) = (match x with | .non => true | _ => false) := by
      cases rv <;> rfl
    rw [e]; cases x <;> exact fin g
  case notn =>
    have hy : y = .non := by cases y <;> first | rfl | (cases x <;> exact g.elim)
    subst hy
    cases ru.inv_non
    refine op_notN pins s σ H _ _ v' u' Q I rx ry ⟨rfl, ?_⟩
    have e : (!decide (v = V.non)) = (match x with | .non => false | _ => true) := by
      cases rv <;> rfl
    rw [e]; cases x <;> exact fin g
  case lt =>
    cases x <;> cases y <;> try exact g.elim
    cases rv.inv_int; cases ru.inv_int
    exact op_lt pins s σ H _ _ v' u' Q I rx ry ⟨_, _, rfl, rfl, fin g⟩
  case le =>
    cases x <;> cases y <;> try exact g.elim
    cases rv.inv_int; cases ru.inv_int
    exact op_le pins s σ H _ _ v' u' Q I rx ry ⟨_, _, rfl, rfl, fin g⟩
  case gt =>
    cases x <;> cases y <;> try exact g.elim
    cases rv.inv_int; cases ru.inv_int
    exact op_gt pins s σ H _ _ v' u' Q I rx ry ⟨_, _, rfl, rfl, fin g⟩
  case ge =>
    cases x <;> cases y <;> try exact g.elim
    cases rv.inv_int; cases ru.inv_int
    exact op_ge pins s σ H _ _ v' u' Q I rx ry ⟨_, _, rfl, rfl, fin g⟩
end
end Ev
set_option Elab.async false
set_option linter.all false
set_option maxRecDepth 100000
/-! EvD: tests, and, or, conditional expressions, displays, subscripts, built-ins. -/
namespace Ev
open PySem PySem.Spec PyProof.Rows L2
theorem R.bind_assoc {α β γ : Type} (r : R α) (f : α → M → R β) (g : β → M → R γ) : (r.bind f).bind g = r.bind fun a m => (f a m).bind g := by cases r <;> rfl
theorem ofO_bind {α β : Type} (o : Option α) (m : M) (f : α → M → R β) : (ofO o m).bind f = match o with | some a => f a m | none => .stuck := by cases o <;> rfl
section
variable {X : Cx} {Ω : Wd} {W : WX} {pos p : Pos} {A : List Addr} {m : M} {H : Hp}

theorem truth_ok (rl : Rl Ω A m H) {v : V} {d : D} {b : Bool} (r : RV Ω A H v d) (e : truth m d = some b) : TruV Ω.K v H b := by
  cases d with
  | non => cases r.inv_non; cases e; rfl
  | bl b => cases r.inv_bl; cases e; rfl
  | int i => cases r.inv_int; cases e; rfl
  | str x =>
    cases r.inv_str
    dsimp only [truth] at e
    split at e
    · rename_i h; cases e; exact ⟨h, rfl⟩
    · cases e
  | tup ds =>
    obtain ⟨a, xs, rfl, hs, q⟩ := r.inv_tup
    cases e
    exact .inr (.inl ⟨xs, hs, by cases q <;> rfl⟩)
  | loc l =>
    obtain ⟨a, rfl, ea⟩ := r.inv_loc
    dsimp only [truth] at e
    split at e
    · rename_i ds e1
      obtain ⟨xs, h1, q⟩ := rl.obj l _ a e1 ea
      cases e
      exact .inl ⟨xs, .inl (.inl h1), by cases q <;> rfl⟩
    · rename_i ds e1
      obtain ⟨o, xs, h1, q⟩ := rl.obj l _ a e1 ea
      cases e
      exact .inl ⟨xs, .inl (.inr ⟨o, h1⟩), by cases q <;> rfl⟩
    · cases e
  | _ => cases e

theorem s_truth (hK : X.K = Ω.K) {e : Expr} {f : Sl → M → R D} (h : PE X e (tE Ω W f)) (he : ∀ whole, isTrue e X.env whole = (do let v ← whole; standAt e.pos; holding [v] (truthy v))) : PT X e (tB' Ω W (tru f)) := by
  refine PT.imp (pt_truth h he) fun σ H Q ⟨A, m, σd, rl, rs, g⟩ => ?_
  refine ⟨A, m, σd, rl, rs, g.bind.imp fun d m1 A1 H1 le rl1 g1 v rv => ?_⟩
  obtain ⟨b, e, g1⟩ := g1.ofO1
  exact ⟨b, hK ▸ truth_ok rl1 rv e, g1.ok rl1⟩
theorem cmpV_bl {o : Cop} {m m' : M} {x y d : D} (h : cmpV o m x y = .ok d m') : ∃ b, d = .bl b ∧ m' = m := by
  have fin : ∀ {o' : Option Bool} {f : Bool → Bool}, ((ofO o' m).bind fun c m => (.ok (.bl (f c)) m : R D)) = .ok d m' → ∃ b, d = .bl b ∧ m' = m := fun {o' f} h => by
    cases o' with
    | none => cases h
    | some c => cases h; exact ⟨_, rfl, rfl⟩
  unfold cmpV at h
  split at h <;> first
    | (cases h; exact ⟨_, rfl, rfl⟩)
    | exact fin (f := id) h
    | exact fin (f := fun c => !c) h
    | cases h
theorem R.bind_inv {α β : Type} {r : R α} {k : α → M → R β} {b : β} {m' : M} (h : r.bind k = .ok b m') : ∃ a m1, r = .ok a m1 ∧ k a m1 = .ok b m' := by
  cases r with
  | ok a m => exact ⟨a, m, rfl, h⟩
  | exc x m => cases h
  | stuck => cases h
/-- a test whose value is a bool -/
theorem tru_bl {f : Sl → M → R D} (hf : ∀ σ m d m', f σ m = .ok d m' → ∃ b, d = .bl b) {σ : L2.St} {Q : Bool → Hp → Prop} (h : tB' Ω W (tru f) σ H Q) : tE Ω W f σ H fun x H' => ∃ k, x = .bl k ∧ Q k H' := by
  obtain ⟨A, m, σd, rl, rs, g⟩ := h
  refine ⟨A, m, σd, rl, rs, ?_⟩
  unfold tru at g
  cases e : f σd m with
  | stuck => rw [e] at g; exact g
  | exc x m' => rw [e] at g; exact g
  | ok d m' =>
    obtain ⟨b, rfl⟩ := hf _ _ _ _ e
    rw [e] at g
    intro A' H' le' rl' v' rv'
    cases rv'.inv_bl
    exact ⟨b, rfl, g A' H' le' rl'⟩
theorem s_binE (hK : X.K = Ω.K) (o : Bop) {a b : Expr} {fa fb : Sl → M → R D} (ha : PE X a (tE Ω W fa)) (hb : PE X b (tE Ω W fb)) : PE X (.BinOp a (bopOf o) b pos) (tE Ω W (binF o fa fb)) := by
  refine PE.imp (pe_op (op_bin (W := W) hK o) ha hb) fun σ H Q ⟨A, m, σd, rl, rs, g⟩ => ?_
  refine tE.next (k := fun σ x m => (fb σ m).bind fun y m => binV o m x y) rl rs g fun v H1 A1 m1 d le rl1 rs1 rv g1 => ?_
  refine tE.next (k := fun σ y m => binV o m d y) rl1 rs1 g1 fun u H2 A2 m2 d2 le2 rl2 rs2 rv2 g2 => ?_
  exact ⟨A2, m2, d, d2, σ, rl2, rv.mono le2, rv2, g2⟩
theorem cmp_imp (o : Cop) {fa fb : Sl → M → R D} {σ : L2.St} {H : Hp} {Q : VK} (h : tE Ω W (cmpF o fa fb) σ H Q) : tOp (rCmp Ω W o) (tE Ω W fa) (tE Ω W fb) σ H Q := by
  obtain ⟨A, m, σd, rl, rs, g⟩ := h
  refine tE.next (k := fun σ x m => (fb σ m).bind fun y m => cmpV o m x y) rl rs g fun v H1 A1 m1 d le rl1 rs1 rv g1 => ?_
  refine tE.next (k := fun σ y m => cmpV o m d y) rl1 rs1 g1 fun u H2 A2 m2 d2 le2 rl2 rs2 rv2 g2 => ?_
  exact ⟨A2, m2, d, d2, σ, rl2, rv.mono le2, rv2, g2⟩
theorem s_cmpE (hK : X.K = Ω.K) (hu : X.A.units + 64 < cLine) (o : Cop) {a b : Expr} {fa fb : Sl → M → R D} (hm : behindInMarks (copOf o) b = false)
    (ha : PE X a (tE Ω W fa)) (hb : PE X b (tE Ω W fb)) : PE X (.Compare a [copOf o] [b] pos) (tE Ω W (cmpF o fa fb)) :=
  PE.imp (pe_cmpR (op_cmp hK hu o) ha hb hm) fun σ H Q h => cmp_imp o h
theorem s_cmpT (hK : X.K = Ω.K) (hu : X.A.units + 64 < cLine) (o : Cop) {a b : Expr} {fa fb : Sl → M → R D} (hm : behindInMarks (copOf o) b = false)
    (ha : PE X a (tE Ω W fa)) (hb : PE X b (tE Ω W fb)) : PT X (.Compare a [copOf o] [b] pos) (tB' Ω W (tru (cmpF o fa fb))) :=
  PT.imp (pt_cmpR (op_cmp (W := W) hK hu o) ha hb hm) fun σ H Q h => cmp_imp o (tru_bl (fun σ m d m' e => by
    obtain ⟨x, m1, _, e⟩ := R.bind_inv e
    obtain ⟨y, m2, _, e⟩ := R.bind_inv e
    obtain ⟨b, h, _⟩ := cmpV_bl e
    exact ⟨b, h⟩) h)
/-- a < b < c -/
theorem chn_imp (o o' : Cop) {fa fb fc : Sl → M → R D} {σ : L2.St} {H : Hp} {Q : VK} (h : tE Ω W (chnV o o' fa fb fc) σ H Q) : tChain (rCmp Ω W o) (rCmp Ω W o') (tE Ω W fa) (tE Ω W fb) (tE Ω W fc) σ H Q := by
  obtain ⟨A, m, σd, rl, rs, g⟩ := h
  refine tE.next (k := fun σ x m => (fb σ m).bind fun y m => (cmpV o m x y).bind (chnK o' fc y σ)) rl rs g fun v H1 A1 m1 d le rl1 rs1 rv g1 => ?_
  refine tE.next (k := fun σ y m => (cmpV o m d y).bind (chnK o' fc y σ)) rl1 rs1 g1 fun u H2 A2 m2 d2 le2 rl2 rs2 rv2 g2 => ?_
  refine ⟨A2, m2, d, d2, σ, rl2, rv.mono le2, rv2, ?_⟩
  cases e : cmpV o m2 d d2 with
  | stuck => rw [e] at g2; exact g2
  | exc x m' => rw [e] at g2; exact g2
  | ok d3 m' =>
    obtain ⟨b, rfl, rfl⟩ := cmpV_bl e
    rw [e] at g2
    intro A' H' le' rl' v' rv'
    cases rv'.inv_bl
    refine ⟨b, rfl, ?_⟩
    have g3 := Gd.le (r := chnK o' fc d2 σd (D.bl b) m') g2 le'
    cases b with
    | true =>
      rw [if_pos rfl]
      refine tE.next (k := fun σ z m => cmpV o' m d2 z) rl' (rs2.mono le') g3 fun w H4 A4 m4 d4 le4 rl4 rs4 rv4 g4 => ?_
      exact ⟨A4, m4, d2, d4, σ, rl4, (rv2.mono le').mono le4, rv4, g4⟩
    | false =>
      rw [if_neg (by decide)]
      exact g3.ok rl' _ (.bl _)
theorem s_chn (hK : X.K = Ω.K) (hu : X.A.units + 64 < cLine) (o o' : Cop) {a b c : Expr} {fa fb fc : Sl → M → R D} (hm : lastMarks [copOf o, copOf o'] [b, c] = false)
    (ha : PE X a (tE Ω W fa)) (hb : PE X b (tE Ω W fb)) (hc : PE X c (tE Ω W fc)) : PE X (.Compare a [copOf o, copOf o'] [b, c] pos) (tE Ω W (chnV o o' fa fb fc)) :=
  PE.imp (pe_chain (op_cmp (W := W) hK hu o) (op_cmp (W := W) hK hu o') ha hb hc hm) fun σ H Q h => chn_imp o o' h
theorem s_chnT (hK : X.K = Ω.K) (hu : X.A.units + 64 < cLine) (o o' : Cop) {a b c : Expr} {fa fb fc : Sl → M → R D} (hm : lastMarks [copOf o, copOf o'] [b, c] = false)
    (ha : PE X a (tE Ω W fa)) (hb : PE X b (tE Ω W fb)) (hc : PE X c (tE Ω W fc)) : PT X (.Compare a [copOf o, copOf o'] [b, c] pos) (tB' Ω W (tru (chnV o o' fa fb fc))) :=
  PT.imp (pt_chain (op_cmp (W := W) hK hu o) (op_cmp (W := W) hK hu o') ha hb hc hm) fun σ H Q h => chn_imp o o' (tru_bl (fun σ m d m' e => by
    obtain ⟨x, m1, _, e⟩ := R.bind_inv e
    obtain ⟨y, m2, _, e⟩ := R.bind_inv e
    obtain ⟨z, m3, ez, e⟩ := R.bind_inv e
    unfold chnK at e
    split at e
    · obtain ⟨y, m2, _, e⟩ := R.bind_inv e
      obtain ⟨b, h, _⟩ := cmpV_bl e
      exact ⟨b, h⟩
    · cases e; exact ⟨_, rfl⟩
    · cases e) h)

/-! ### and, or, not, conditional expressions -/
theorem s_and (hK : X.K = Ω.K) {a b : Expr} {rest : List Expr} {fa fb : Sl → M → R D} (ha : PE X a (tE Ω W fa)) (hb : PE X (.BoolOp .And (b :: rest) pos) (tE Ω W fb)) : PE X (.BoolOp .And (a :: b :: rest) pos) (tE Ω W (andV fa fb)) := by
  refine PE.imp (pe_andT ha hb) fun σ H Q ⟨A, m, σd, rl, rs, g⟩ => ?_
  refine tE.next (k := fun σ x m => (ofO (truth m x) m).bind fun t m => if t then fb σ m else .ok x m) rl rs g fun v H1 A1 m1 d le rl1 rs1 rv g1 => ?_
  obtain ⟨t, e, g1⟩ := g1.ofO
  refine ⟨t, hK ▸ truth_ok rl1 rv e, ?_⟩
  cases t with
  | true => rw [if_pos rfl] at g1 ⊢; exact ⟨A1, m1, σd, rl1, rs1, g1⟩
  | false => rw [if_neg (by decide)] at g1 ⊢; exact g1.ok rl1 _ rv
theorem s_or (hK : X.K = Ω.K) {a b : Expr} {rest : List Expr} {fa fb : Sl → M → R D} (ha : PE X a (tE Ω W fa)) (hb : PE X (.BoolOp .Or (b :: rest) pos) (tE Ω W fb)) : PE X (.BoolOp .Or (a :: b :: rest) pos) (tE Ω W (orV fa fb)) := by
  refine PE.imp (pe_orT ha hb) fun σ H Q ⟨A, m, σd, rl, rs, g⟩ => ?_
  refine tE.next (k := fun σ x m => (ofO (truth m x) m).bind fun t m => if t then .ok x m else fb σ m) rl rs g fun v H1 A1 m1 d le rl1 rs1 rv g1 => ?_
  obtain ⟨t, e, g1⟩ := g1.ofO
  refine ⟨t, hK ▸ truth_ok rl1 rv e, ?_⟩
  cases t with
  | true => rw [if_pos rfl] at g1 ⊢; exact g1.ok rl1 _ rv
  | false => rw [if_neg (by decide)] at g1 ⊢; exact ⟨A1, m1, σd, rl1, rs1, g1⟩
theorem s_not (hK : X.K = Ω.K) {a : Expr} {fa : Sl → M → R D} (ha : PE X a (tE Ω W fa)) : PE X (.UnaryOp .Not a pos) (tE Ω W (notV fa)) := by
  refine PE.imp (pe_notT ha) fun σ H Q ⟨A, m, σd, rl, rs, g⟩ => ?_
  refine tE.next (k := fun σ x m => (ofO (truth m x) m).bind fun t m => R.ok (D.bl (!t)) m) rl rs g fun v H1 A1 m1 d le rl1 rs1 rv g1 => ?_
  obtain ⟨t, e, g1⟩ := g1.ofO
  exact ⟨t, hK ▸ truth_ok rl1 rv e, g1.ok rl1 _ (.bl _)⟩
theorem s_ite {c a b : Expr} {fc fa fb : Sl → M → R D} (hc : PT X c (tB' Ω W (tru fc))) (ha : PE X a (tE Ω W fa)) (hb : PE X b (tE Ω W fb)) : PE X (.IfExp c a b pos) (tE Ω W (iteV fc fa fb)) := by
  refine PE.imp (pe_ifExp hc ha hb) fun σ H Q ⟨A, m, σd, rl, rs, g⟩ => ?_
  refine tB'.next (k := fun σ x t m => if t then fa σ m else fb σ m) rl rs g fun t H1 A1 m1 d le rl1 rs1 g1 => ?_
  cases t with
  | true => rw [if_pos rfl] at g1 ⊢; exact ⟨A1, m1, σd, rl1, rs1, g1⟩
  | false => rw [if_neg (by decide)] at g1 ⊢; exact ⟨A1, m1, σd, rl1, rs1, g1⟩
/-- as tests -/
theorem tru_bind (f : Sl → M → R D) (k : Sl → D → M → R D) : tru (fun σ m => (f σ m).bind (k σ)) = fun σ m => (f σ m).bind fun x m => (k σ x m).bind fun x m => ofO (truth m x) m := by
  funext σ m; unfold tru; rw [R.bind_assoc]
theorem s_andT {a b : Expr} {rest : List Expr} {fa fb : Sl → M → R D} (ha : PT X a (tB' Ω W (tru fa))) (hb : PW X (.BoolOp .And (b :: rest) pos) (tB' Ω W (tru fb))) : PW X (.BoolOp .And (a :: b :: rest) pos) (tB' Ω W (tru (andV fa fb))) := by
  refine PW.imp (pw_and ha hb) fun σ H Q ⟨A, m, σd, rl, rs, g⟩ => ?_
  have g : Gd Ω W σ A H ((fa σd m).bind fun x m => (ofO (truth m x) m).bind fun t m => if t then tru fb σd m else .ok false m) (fun b _ _ H' => Q b H') := by
    have e : tru (andV fa fb) σd m = (fa σd m).bind fun x m => (ofO (truth m x) m).bind fun t m => if t then tru fb σd m else .ok false m := by
      show ((fa σd m).bind _).bind _ = _
      rw [R.bind_assoc]
      congr 1; funext x m1
      rw [R.bind_assoc]
      cases ht : truth m1 x with
      | none => rfl
      | some t => cases t <;> simp [ofO, R.bind, tru, ht]
    rw [← e]; exact g
  refine tB'.next (k := fun σ x t m => if t then tru fb σ m else .ok false m) rl rs g fun t H1 A1 m1 d le rl1 rs1 g1 => ?_
  cases t with
  | true => rw [if_pos rfl] at g1 ⊢; exact ⟨A1, m1, σd, rl1, rs1, g1⟩
  | false => rw [if_neg (by decide)] at g1 ⊢; exact g1.ok rl1
theorem s_orT {a b : Expr} {rest : List Expr} {fa fb : Sl → M → R D} (ha : PT X a (tB' Ω W (tru fa))) (hb : PW X (.BoolOp .Or (b :: rest) pos) (tB' Ω W (tru fb))) : PW X (.BoolOp .Or (a :: b :: rest) pos) (tB' Ω W (tru (orV fa fb))) := by
  refine PW.imp (pw_or ha hb) fun σ H Q ⟨A, m, σd, rl, rs, g⟩ => ?_
  have g : Gd Ω W σ A H ((fa σd m).bind fun x m => (ofO (truth m x) m).bind fun t m => if t then .ok true m else tru fb σd m) (fun b _ _ H' => Q b H') := by
    have e : tru (orV fa fb) σd m = (fa σd m).bind fun x m => (ofO (truth m x) m).bind fun t m => if t then .ok true m else tru fb σd m := by
      show ((fa σd m).bind _).bind _ = _
      rw [R.bind_assoc]
      congr 1; funext x m1
      rw [R.bind_assoc]
      cases ht : truth m1 x with
      | none => rfl
      | some t => cases t <;> simp [ofO, R.bind, tru, ht]
    rw [← e]; exact g
  refine tB'.next (k := fun σ x t m => if t then .ok true m else tru fb σ m) rl rs g fun t H1 A1 m1 d le rl1 rs1 g1 => ?_
  cases t with
  | true => rw [if_pos rfl] at g1 ⊢; exact g1.ok rl1
  | false => rw [if_neg (by decide)] at g1 ⊢; exact ⟨A1, m1, σd, rl1, rs1, g1⟩
theorem s_notT {a : Expr} {fa : Sl → M → R D} (ha : PT X a (tB' Ω W (tru fa))) : PT X (.UnaryOp .Not a pos) (tB' Ω W (tru (notV fa))) := by
  refine PT.imp (pt_not ha) fun σ H Q ⟨A, m, σd, rl, rs, g⟩ => ?_
  have g : Gd Ω W σ A H ((fa σd m).bind fun x m => (ofO (truth m x) m).bind fun t m => .ok (!t) m) (fun b _ _ H' => Q b H') := by
    have e : tru (notV fa) σd m = (fa σd m).bind fun x m => (ofO (truth m x) m).bind fun t m => .ok (!t) m := by
      show ((fa σd m).bind _).bind _ = _
      rw [R.bind_assoc]
      congr 1; funext x m1
      rw [R.bind_assoc]
      cases ht : truth m1 x with
      | none => rfl
      | some t => cases t <;> simp [ofO, R.bind, truth]
    rw [← e]; exact g
  refine tB'.next (k := fun σ x t m => .ok (!t) m) rl rs g fun t H1 A1 m1 d le rl1 rs1 g1 => ?_
  exact g1.ok rl1

/-! ### minus, displays, subscripts -/
theorem s_neg {a : Expr} {fa : Sl → M → R D} (ha : PE X a (tE Ω W fa)) : PE X (.UnaryOp .USub a pos) (tE Ω W (negV fa)) := by
  refine PE.imp (pe_un un_neg ha) fun σ H Q ⟨A, m, σd, rl, rs, g⟩ => ?_
  refine tE.next (k := fun σ x m => match x with
    | .int i => R.ok (D.int (-i)) m
    | _ => .stuck) rl rs g fun v H1 A1 m1 d le rl1 rs1 rv g1 => ?_
  cases d <;> try exact g1.elim
  cases rv.inv_int
  exact ⟨_, rfl, g1.ok rl1 _ (.int _)⟩
theorem s_nil : PA X [] (tA Ω W fun _ m => .ok [] m) := PA.imp pa_nil fun σ H Q ⟨A, m, σd, rl, rs, g⟩ => g.ok rl _ .nil
theorem s_cons {e : Expr} {es : List Expr} {fa : Sl → M → R D} {fs : Sl → M → R (List D)} (ha : PE X e (tE Ω W fa)) (hs : PA X es (tA Ω W fs)) (hst : starEach (e :: es) X.env = (false, eval e X.env) :: starEach es X.env) : PA X (e :: es) (tA Ω W (consV fa fs)) := by
  refine PA.imp (pa_cons ha hs hst) fun σ H Q ⟨A, m, σd, rl, rs, g⟩ => ?_
  refine tE.next (k := fun σ d m => (fs σ m).bind fun ds m => R.ok (d :: ds) m) rl rs g fun v H1 A1 m1 d le rl1 rs1 rv g1 => ?_
  refine tA.next (k := fun σ ds m => R.ok (d :: ds) m) rl1 rs1 g1 fun vs H2 A2 m2 ds le2 rl2 rs2 rvs g2 => ?_
  exact g2.ok rl2 _ (.cons (rv.mono le2) rvs)
theorem s_star (hK : X.K = Ω.K) {e : Expr} {es : List Expr} {fa : Sl → M → R D} {fs : Sl → M → R (List D)} (ha : PE X e (tE Ω W fa)) (hs : PA X es (tA Ω W fs)) (hst : starEach (.Starred e p :: es) X.env = (true, eval e X.env) :: starEach es X.env) : PA X (.Starred e p :: es) (tA Ω W (starV fa fs)) := by
  refine PA.imp (StX.pa_star ha hs hst) fun σ H Q ⟨A, m, σd, rl, rs, g⟩ => ?_
  refine tE.next (k := fun σ x m => (ofO (items m x) m).bind fun xs m => (fs σ m).bind fun ds m => R.ok (xs ++ ds) m) rl rs g fun v H1 A1 m1 d le rl1 rs1 rv g1 => ?_
  obtain ⟨xs, e, g1⟩ := g1.ofO
  obtain ⟨a, vs, rfl, hsq, q⟩ := rv.items rl1 e
  refine ⟨a, vs, rfl, hK ▸ hsq.symm, ?_⟩
  refine tA.next (k := fun σ ds m => R.ok (xs ++ ds) m) rl1 rs1 g1 fun ws H2 A2 m2 ds le2 rl2 rs2 rvs g2 => ?_
  exact g2.ok rl2 _ ((q.mono le2).append rvs)
theorem s_tup {es : List Expr} {x1} {fs : Sl → M → R (List D)} (hs : PA X es (tA Ω W fs)) : PE X (.Tuple es x1 pos) (tE Ω W fun σ m => (fs σ m).bind tupK) := by
  refine PE.imp (pe_tup hs) fun σ H Q ⟨A, m, σd, rl, rs, g⟩ => ?_
  refine tA.next (k := fun _ => tupK) rl rs g fun vs H1 A1 m1 ds le rl1 rs1 rvs g1 => ?_
  unfold tupK at g1
  split at g1
  · rename_i hf
    exact ⟨by rw [rvs.length]; exact fits_le hf, fun p hp => g1.newTup rl1 rvs hp⟩
  · exact g1.elim
theorem s_lst {es : List Expr} {fs : Sl → M → R (List D)} (hs : PA X es (tA Ω W fs)) : PE X (.List es pos) (tE Ω W fun σ m => (fs σ m).bind lstK) := by
  refine PE.imp (pe_lst hs) fun σ H Q ⟨A, m, σd, rl, rs, g⟩ => ?_
  refine tA.next (k := fun _ => lstK) rl rs g fun vs H1 A1 m1 ds le rl1 rs1 rvs g1 => ?_
  unfold lstK at g1
  split at g1
  · rename_i hf
    exact ⟨by rw [rvs.length]; exact fits_le hf, fun p hp => g1.newLst rl1 rvs hp⟩
  · exact g1.elim
end
end Ev
set_option Elab.async false
set_option linter.all false
set_option maxRecDepth 100000
/-! EvE: subscripts, slices, built-ins, calls. -/
namespace Ev
open PySem PySem.Spec PyProof.Rows L2
section
variable {X : Cx} {Ω : Wd} {W : WX} {pos p : Pos} {A : List Addr} {m : M} {H : Hp}

theorem atI_map {α β : Type} (f : α → β) (xs : List α) (i : Int) : atI (xs.map f) i = (atI xs i).map f := by
  unfold atI ixN
  simp only [List.length_map]
  split
  · split
    · simp
    · rfl
  · split
    · simp
    · rfl
theorem RVs.atI {vs : List V} {ds : List D} {i : Int} {d : D} (h : RVs Ω A H vs ds) (e : L2.atI ds i = some d) : ∃ v, L2.atI vs i = some v ∧ RV Ω A H v d := by
  unfold L2.atI at e ⊢
  rw [h.length]
  cases q : ixN ds.length i with
  | none => rw [q] at e; cases e
  | some j =>
    rw [q] at e
    exact h.get e
def rIxE (Ω : Wd) (W : WX) : R2 := fun v u H Q => ∃ A m x y σ, Rl Ω A m H ∧ RV Ω A H v x ∧ RV Ω A H u y ∧ Gd Ω W σ A H (ixV m x y) (pV Ω Q)
theorem ix_E (hK : X.K = Ω.K) : IxR X (rIxE Ω W) := by
  intro vx sx pins s σ H v u v' u' Q I rv ru h hsub
  obtain ⟨A, m, x, y, σ', rl, r1, r2, g⟩ := h
  unfold ixV at g
  split at g
  · rename_i i
    cases r2.inv_int
    split at g
    · rename_i z
      cases r1.inv_str
      split at g
      · rename_i hf
        obtain ⟨c, e, g⟩ := g.ofO1
        cases hc : atI z.cps.toList i with
        | none => rw [hc] at e; cases e
        | some c0 =>
          rw [hc] at e; cases e
          exact ix_str vx sx pins s σ H _ _ v' u' Q I rv ru ⟨z, i, c0, rfl, rfl, fits_le hf, hc, g.ok rl _ (.str _)⟩ hsub
      · exact g.elim
    · obtain ⟨ds, e, g⟩ := g.ofO
      obtain ⟨d, e2, g⟩ := g.ofO1
      obtain ⟨a, xs, rfl, hs, q⟩ := r1.items rl e
      obtain ⟨w, e3, rw'⟩ := q.atI e2
      rcases hs with hs | hs
      · exact ix_list vx sx pins s σ H _ _ v' u' Q I rv ru ⟨a, xs, i, w, rfl, rfl, hK ▸ hs, e3, g.ok rl _ rw'⟩ hsub
      · exact ix_tup vx sx pins s σ H _ _ v' u' Q I rv ru ⟨a, xs, i, w, rfl, rfl, hK ▸ hs, e3, g.ok rl _ rw'⟩ hsub
  · exact g.elim
theorem s_ix (hK : X.K = Ω.K) {a b : Expr} {fa fb : Sl → M → R D} (ha : PE X a (tE Ω W fa)) (hb : PE X b (tE Ω W fb)) (hs : PlainIx b) : PE X (.Subscript a b pos) (tE Ω W fun σ m => (fa σ m).bind fun x m => (fb σ m).bind fun y m => ixV m x y) := by
  refine PE.imp (pe_ix (ix_E (W := W) hK) ha hb hs) fun σ H Q ⟨A, m, σd, rl, rs, g⟩ => ?_
  refine tE.next (k := fun σ x m => (fb σ m).bind fun y m => ixV m x y) rl rs g fun v H1 A1 m1 d le rl1 rs1 rv g1 => ?_
  refine tE.next (k := fun σ y m => ixV m d y) rl1 rs1 g1 fun u H2 A2 m2 d2 le2 rl2 rs2 rv2 g2 => ?_
  exact ⟨A2, m2, d, d2, σ, rl2, rv.mono le2, rv2, g2⟩
theorem s_oN : PO X none (tO' Ω W fun _ m => .ok none m) := PO.imp po_none fun σ H Q ⟨A, m, σd, rl, rs, g⟩ => g.ok rl
theorem s_oS {e : Expr} {f : Sl → M → R D} (h : PE X e (tE Ω W f)) : PO X (some e) (tO' Ω W fun σ m => (f σ m).bind fun x m => ofO (partV x) m) := by
  refine PO.imp (po_some h) fun σ H Q ⟨A, m, σd, rl, rs, g⟩ => ?_
  refine tE.next (k := fun σ x m => ofO (partV x) m) rl rs g fun v H1 A1 m1 d le rl1 rs1 rv g1 => ?_
  obtain ⟨o, e, g1⟩ := g1.ofO1
  cases d <;> cases e
  cases rv.inv_int
  exact ⟨_, rfl, g1.ok rl1⟩
def rSlE (Ω : Wd) (W : WX) : V → Option Int → Option Int → Hp → VK → Prop := fun v lo hi H Q => ∃ A m x σ, Rl Ω A m H ∧ RV Ω A H v x ∧ Gd Ω W σ A H (slV m x lo hi) (pV Ω Q)
theorem RVs.cut {vs : List V} {ds : List D} (h : RVs Ω A H vs ds) (lo hi : Option Int) : RVs Ω A H (cutV vs lo hi) (cutD ds lo hi) := by
  unfold cutV cutD
  rw [h.length]
  exact (h.drop _).take _
theorem cut_whole {α : Type} (ds : List α) {a b : Nat} (ha : a = 0) (hb : b = ds.length) : (ds.drop a).take (b - a) = ds := by subst ha hb; simp
theorem sl_E (hK : X.K = Ω.K) : SlR X (rSlE Ω W) := by
  intro pins s σ H v v' vl vu lo hi sl Q I rv hs pl pu h
  obtain ⟨A, m, x, σ', rl, r1, g⟩ := h
  cases x <;> try exact g.elim
  case tup ds =>
    obtain ⟨a, xs, rfl, hs', q⟩ := r1.inv_tup
    refine sl_tupA pins s σ H _ v' vl vu lo hi sl Q I rv hs pl pu ⟨a, xs, rfl, hK ▸ hs', fun e => ?_, fun _ p hp => g.newTup rl (q.cut lo hi) hp⟩
    have e2 : cutD ds lo hi = ds := by
      unfold cutD
      rw [← q.length]
      exact cut_whole ds e.1 (by rw [e.2, q.length])
    dsimp only [slV] at g
    rw [e2] at g
    exact g.ok rl _ r1
  case loc l =>
    obtain ⟨a, rfl, ea⟩ := r1.inv_loc
    dsimp only [slV] at g
    split at g
    · rename_i ds e1
      obtain ⟨xs, h1, q⟩ := rl.obj l _ a e1 ea
      exact sl_list pins s σ H _ v' vl vu lo hi sl Q I rv hs pl pu ⟨a, xs, rfl, .inl (.inl h1), fun p hp => g.newLst rl (q.cut lo hi) hp⟩
    · rename_i ds e1
      obtain ⟨o, xs, h1, q⟩ := rl.obj l _ a e1 ea
      exact sl_list pins s σ H _ v' vl vu lo hi sl Q I rv hs pl pu ⟨a, xs, rfl, .inl (.inr ⟨o, h1⟩), fun p hp => g.newLst rl (q.cut lo hi) hp⟩
    · exact g.elim
theorem tO'.next {f : Sl → M → R (Option Int)} {β : Type} {k : Sl → Option Int → M → R β} {σ : L2.St} {H : Hp} {P : β → M → List Addr → Hp → Prop} {A : List Addr} {m : M} {σd : Sl}
    (rl : Rl Ω A m H) (rs : RS Ω A H σd σ) (g : Gd Ω W σ A H ((f σd m).bind (k σd)) P) {Q : Option Int → Hp → Prop}
    (h : ∀ o H1 A1 m1, Le A H A1 H1 → Rl Ω A1 m1 H1 → RS Ω A1 H1 σd σ → Gd Ω W σ A1 H1 (k σd o m1) P → Q o H1) : tO' Ω W f σ H Q :=
  ⟨A, m, σd, rl, rs, g.bind.imp fun d m1 A1 H1 le rl1 g1 => h d H1 A1 m1 le rl1 (rs.mono le) g1⟩
theorem s_sl (hK : X.K = Ω.K) {e : Expr} {lo hi : Option Expr} {p2 : Pos} {fe : Sl → M → R D} {fl fh : Sl → M → R (Option Int)} (he : PE X e (tE Ω W fe)) (hl : PO X lo (tO' Ω W fl)) (hh : PO X hi (tO' Ω W fh)) :
    PE X (.Subscript e (.Slice lo hi none p2) pos) (tE Ω W fun σ m => (fe σ m).bind fun x m => (fl σ m).bind fun i m => (fh σ m).bind fun j m => slV m x i j) := by
  refine PE.imp (pe_slice (sl_E (W := W) hK) he hl hh) fun σ H Q ⟨A, m, σd, rl, rs, g⟩ => ?_
  refine tE.next (k := fun σ x m => (fl σ m).bind fun i m => (fh σ m).bind fun j m => slV m x i j) rl rs g fun v H1 A1 m1 d le rl1 rs1 rv g1 => ?_
  refine tO'.next (k := fun σ i m => (fh σ m).bind fun j m => slV m d i j) rl1 rs1 g1 fun i H2 A2 m2 le2 rl2 rs2 g2 => ?_
  refine tO'.next (k := fun σ j m => slV m d i j) rl2 rs2 g2 fun j H3 A3 m3 le3 rl3 rs3 g3 => ?_
  exact ⟨A3, m3, d, σ, rl3, (rv.mono le2).mono le3, g3⟩

/-- xs[::-1] -/
theorem RVs.rev {vs : List V} {ds : List D} (h : RVs Ω A H vs ds) : RVs Ω A H vs.reverse ds.reverse := by
  induction h using RVs.rec (motive_1 := fun _ _ _ => True) with
  | nil => exact .nil
  | cons r q _ ih => rw [List.reverse_cons, List.reverse_cons]; exact ih.append (.cons r .nil)
  | _ => trivial
theorem s_srev (hK : X.K = Ω.K) {e : Expr} {k : Nat} {p1 p2 p3 : Pos} {f : Sl → M → R D} (he : PE X e (tE Ω W f)) : PE X (.Subscript e (.Slice none none (some (.UnaryOp .USub (.Constant (.int 1) k p1) p2)) p3) pos) (tE Ω W fun σ m => (f σ m).bind fun x m => revV m x) := by
  refine PE.imp (pe_revL he) fun σ H Q ⟨A, m, σd, rl, rs, g⟩ => ?_
  refine tE.next (k := fun σ x m => revV m x) rl rs g fun v H1 A1 m1 d le rl1 rs1 rv g1 => ?_
  unfold revV at g1
  split at g1
  · obtain ⟨a, rfl, ea⟩ := rv.inv_loc
    split at g1
    · rename_i em
      obtain ⟨xs, h, q⟩ := rl1.obj _ _ _ em ea
      exact ⟨a, xs, rfl, .inl (.inl h), fun p hp => g1.newLst rl1 q.rev hp⟩
    · rename_i em
      obtain ⟨o, xs, h, q⟩ := rl1.obj _ _ _ em ea
      exact ⟨a, xs, rfl, .inl (.inr ⟨o, h⟩), fun p hp => g1.newLst rl1 q.rev hp⟩
    · exact g1.elim
  · exact g1.elim

/-! ### built-ins over values -/
def rBi (Ω : Wd) (W : WX) (b : Bi) : List V → Hp → VK → Prop := fun vs H Q => ∃ A m ds σ, Rl Ω A m H ∧ RVs Ω A H vs ds ∧ Gd Ω W σ A H (biV b m ds) (pV Ω Q)
def biVal : Bi → Value
  | .len => .builtin "len" | .abs => .builtin "abs" | .min => .builtin "min" | .max => .builtin "max" | .sum => .builtin "sum" | .all => .builtin "all" | .any => .builtin "any"
  | .tuple => .type "tuple" | .list => .type "list" | .int => .type "int" | .str => .type "str" | .repr => .builtin "repr" | .isinst => .builtin "isinstance" | .type => .type "type" | .sorted => .builtin "sorted"
theorem RVs.inv1 {vs : List V} {d : D} (h : RVs Ω A H vs [d]) : ∃ v, vs = [v] ∧ RV Ω A H v d := by
  cases h with | cons r t => cases t; exact ⟨_, rfl, r⟩
theorem RVs.inv2 {vs : List V} {d e : D} (h : RVs Ω A H vs [d, e]) : ∃ v w, vs = [v, w] ∧ RV Ω A H v d ∧ RV Ω A H w e := by
  cases h with | cons r t => obtain ⟨w, rfl, q⟩ := t.inv1; exact ⟨_, _, rfl, r, q⟩
theorem tyN_ok (hK : X.K = Ω.K) (rl : Rl Ω A m H) {v : V} {d : D} {t : String} (r : RV Ω A H v d) (e : tyN m d = some t) : TyX X.K H v (.type t) := by
  cases d <;> try (cases e; done)
  · cases e; cases r.inv_non; exact .base .non
  · cases e; cases r.inv_bl; exact .base (.bl _)
  · cases e; cases r.inv_int; exact .base (.int _)
  · cases e; cases r.inv_str; exact .base (.str _)
  · cases e
    obtain ⟨a, xs, rfl, hs, _⟩ := r.inv_tup
    rcases hs with (h | ⟨o, h⟩) | ⟨o, its, n, h1, h2, _⟩
    · exact .base (.tup h)
    · exact .fTuple h
    · exact .kTuple (hK ▸ h1) h2
  · obtain ⟨a, rfl, ea⟩ := r.inv_loc
    dsimp only [tyN] at e
    split at e
    · rename_i ds em
      cases e
      obtain ⟨xs, h, _⟩ := rl.obj _ _ _ em ea
      exact .base (.lst h)
    · rename_i ds em
      cases e
      obtain ⟨o, xs, h, _⟩ := rl.obj _ _ _ em ea
      exact .base (.frz h)
    · cases e
theorem call_reprD (hgd : X.A.guards = some []) (hu : X.A.units + 64 < cLine) : CallR X (.builtin "repr") (fun xs H Q => ∃ v p, xs = [v] ∧ Dp X.K H v p ∧ isTL p = true ∧ p.showable = true ∧ p.hasDict = false ∧ p.depth < 60 ∧ p.shown.length ≤ sizeLine ∧ Q (.str p.shown) H) := by
  intro pins s σ H xs us Q I rv ⟨v, p, e, dp, tl, hs, hd, hdp, hz, q⟩
  subst e
  cases rv with
  | cons r t =>
    cases t
    obtain ⟨as, hr⟩ := Dp.reads I p v _ dp r
    have fin : ∀ a, v = .ref a → wpAny (model X.prog X.w) X.A (PySem.call (.builtin "repr") [.ref a]) (EP X pins σ Q) X.xe s := fun a e => by
      subst e
      cases r
      exact repr_of_reads' hr hs (PyData.noDict_hsm hd) hgd (by omega) (fun _ _ e => e) (fun h' u tk hk => ⟨.str p.shown, H, I.kept hk, ⟨_, rfl⟩, q⟩) hz
    cases dp with
    | lst _ _ => cases r; exact fin _ rfl
    | tup _ _ => cases r; exact fin _ rfl
    | _ => cases tl
theorem call_bi (hK : X.K = Ω.K) (hc : X.calm = true) (hgd : X.A.guards = some []) (hu : X.A.units + 64 < cLine) (b : Bi) : CallR X (biVal b) (rBi Ω W b) := by
  intro pins s σ H vs us Q I rv h
  obtain ⟨A, m, ds, σ', rl, r, g⟩ := h
  unfold biV at g
  split at g
  · obtain ⟨v, rfl, r1⟩ := r.inv1
    cases r1.inv_str
    split at g
    · rename_i hf
      exact call_len_str pins s σ H _ us Q I rv ⟨_, rfl, fits_le hf, g.ok rl _ (.int _)⟩
    · exact g.elim
  · obtain ⟨v, rfl, r1⟩ := r.inv1
    obtain ⟨es, e, g⟩ := g.ofO
    obtain ⟨a, xs, rfl, hs, q⟩ := r1.items rl e
    refine call_len_seq pins s σ H _ us Q I rv ⟨a, xs, rfl, hK ▸ hs, ?_⟩
    rw [q.length]
    exact g.ok rl _ (.int _)
  · obtain ⟨v, rfl, r1⟩ := r.inv1
    cases r1.inv_int
    exact call_abs pins s σ H _ us Q I rv ⟨_, rfl, g.ok rl _ (.int _)⟩
  · obtain ⟨v, w, rfl, r1, r2⟩ := r.inv2
    cases r1.inv_int; cases r2.inv_int
    exact call_min2 hc pins s σ H _ us Q I rv ⟨_, _, rfl, g.ok rl _ (.int _)⟩
  · obtain ⟨v, w, rfl, r1, r2⟩ := r.inv2
    cases r1.inv_int; cases r2.inv_int
    exact call_max2 hc pins s σ H _ us Q I rv ⟨_, _, rfl, g.ok rl _ (.int _)⟩
  · obtain ⟨v, rfl, r1⟩ := r.inv1
    cases r1.inv_int
    exact call_int1 pins s σ H _ us Q I rv (.inl ⟨_, rfl, g.ok rl _ (.int _)⟩)
  · obtain ⟨v, rfl, r1⟩ := r.inv1
    cases r1.inv_bl
    exact call_int1 pins s σ H _ us Q I rv (.inr ⟨_, rfl, g.ok rl _ (.int _)⟩)
  · obtain ⟨v, w, rfl, r1, r2⟩ := r.inv2
    cases r2
    obtain ⟨b, e, g⟩ := g.ofO
    cases et : tyN m _ with
    | none => rw [et] at e; cases e
    | some t0 =>
      rw [et] at e
      exact call_isi pins s σ H _ us Q I rv ⟨_, _, _, _, b, rfl, .ty _, tyN_ok hK rl r1 et, kit_ty e, g.ok rl _ (.bl _)⟩
  · obtain ⟨v, rfl, r1⟩ := r.inv1
    unfold reprV at g
    split at g
    · cases r1.inv_int
      split at g
      · rename_i hb
        exact SkE.call_repr_int pins s σ H _ us Q I rv ⟨_, rfl, Nat.le_of_ble_eq_true hb, g.ok rl _ (.str _)⟩
      · exact g.elim
    · split at g
      · rename_i p ep
        split at g
        · rename_i hb
          simp only [Bool.and_eq_true, Bool.not_eq_true'] at hb
          obtain ⟨⟨⟨⟨h1, h2⟩, h3⟩, h4⟩, h5⟩ := hb
          exact call_reprD hgd hu pins s σ H _ us Q I rv ⟨v, p, rfl, hK ▸ pyD_ok rl 40 r1 ep, h5, h1, h2, Nat.le_of_ble_eq_true h3, fits_le h4, g.ok rl _ (.str _)⟩
        · exact g.elim
      · exact g.elim
  · obtain ⟨v, rfl, r1⟩ := r.inv1
    cases r1.inv_int
    split at g
    · rename_i hb
      exact call_str_int pins s σ H _ us Q I rv ⟨_, rfl, Nat.le_of_ble_eq_true hb, g.ok rl _ (.str _)⟩
    · exact g.elim
  · exact g.elim
/-- a built-in's name stands for it -/
structure BiN (X : Cx) (b : Bi) (x : Str) : Prop where
  gl : Gl X x
  mg : X.mg x = none
  bv : bootBuiltins x = some (biVal b)
  nn : x ≠ "__name__"
  nd : (x == ("__debug__" : Str)) = false
/-- no argument is a star -/
structure NoSt (X : Cx) (e : Expr) (es : List Expr) (pos : Pos) : Prop where
  hd : starEach (e :: es) X.env = (false, eval e X.env) :: starEach es X.env
  tl : (backTo pos (starEach es X.env)).any (·.1) = false
theorem s_callV {b : Bi} {x : Str} {r : List V → Hp → VK → Prop} (hc : CallR X (biVal b) r) (n : BiN X b x) {e : Expr} {es : List Expr} {t : TA} (ha : PA X (e :: es) t) (st : NoSt X e es pos) : PE X (.Call (.Name x p) (e :: es) [] pos) (tCB r t) := by
  have hb : (∃ id, biVal b = .builtin id) ∨ ∃ T, biVal b = .type T := by cases b <;> first | exact .inl ⟨_, rfl⟩ | exact .inr ⟨_, rfl⟩
  rcases hb with ⟨id, e1⟩ | ⟨T, e1⟩
  · exact pe_callB (e1 ▸ hc) n.gl n.mg (e1 ▸ n.bv) ha n.nn n.nd st.hd st.tl
  · exact pe_callTy (e1 ▸ hc) n.gl n.mg (e1 ▸ n.bv) ha n.nn n.nd st.hd st.tl
theorem s_bi (hK : X.K = Ω.K) (hc : X.calm = true) (hgd : X.A.guards = some []) (hu : X.A.units + 64 < cLine) (b : Bi) {x : Str} (n : BiN X b x) {e : Expr} {es : List Expr} {fs : Sl → M → R (List D)} (ha : PA X (e :: es) (tA Ω W fs)) (st : NoSt X e es pos) :
    PE X (.Call (.Name x p) (e :: es) [] pos) (tE Ω W fun σ m => (fs σ m).bind fun ds m => biV b m ds) := by
  refine PE.imp (s_callV (call_bi (W := W) hK hc hgd hu b) n ha st) fun σ H Q ⟨A, m, σd, rl, rs, g⟩ => ?_
  refine tA.next (k := fun σ ds m => biV b m ds) rl rs g fun vs H1 A1 m1 ds le rl1 rs1 rvs g1 => ?_
  exact ⟨A1, m1, ds, σ, rl1, rvs, g1⟩
end
end Ev
set_option Elab.async false
set_option linter.all false
set_option maxRecDepth 100000
/-! EvF: enumerate and zip over lists and tuples in any mix, as what a loop walks. -/
namespace Ev
open PySem PySem.Spec PyProof.Rows L2

/-- k: a list (else a tuple) -/
def SqK (K : PySem.W.Frag) (k : Bool) (H : Hp) (a : Addr) (xs : List V) : Prop := if k then SqL K H a xs else SqT K H a xs
def itO (k : Bool) (a : Addr) : Obj := if k then { cls := .type "list_iterator", data := .fields #[.ref a, .int 0 0] } else { cls := .type "tuple_iterator", data := .fields #[.ref a, .int 0 0] }
def isK (k : Bool) (h : Heap) (a : Addr) (its : Array Value) : Prop := if k then h.IsList a its else h.IsTuple a its
def isIt (k : Bool) (h : Heap) (it a : Addr) (i : Nat) : Prop := if k then h.IsListIter it a i else h.IsTupleIter it a i
theorem begK (k : Bool) (a : Addr) (its : Array Value) : Begins (.ref a) (itO k a) fun h => isK k h a its := by
  cases k
  · exact begins_tuple a its
  · exact begins_list a its
theorem drawK {prog : Program} {w : World} {A : Around} (k : Bool) (hh : A.handled = none) (it a : Addr) (hne : a ≠ it) (its : Array Value) :
    Draws prog w A it [it, a] its.size (fun i v => its[i]? = some v) (fun i h => isIt k h it a i ∧ isK k h a its) := by
  cases k
  · exact Draws.tuple hh it a hne its
  · exact Draws.list hh it a hne its
theorem isIt.at {k : Bool} {h h' : Heap} {it a : Addr} {i : Nat} (x : isIt k h it a i) (e : ∀ o, h.get? it = some o → h'.get? it = some o) : isIt k h' it a i := by
  cases k
  · exact Heap.IsTupleIter.at (h := h) x e
  · exact Heap.IsListIter.at (h := h) x e
theorem isIt.there {k : Bool} {h : Heap} {it a : Addr} {i : Nat} (x : isIt k h it a i) : ∃ o, h.get? it = some o ∧ ∀ v, o.data ≠ .cell v := by
  cases k <;> (obtain ⟨o, e, c, d⟩ := x; exact ⟨o, e, fun v z => by rw [d] at z; cases z⟩)
theorem isIt.new (k : Bool) {h : Heap} {it a : Addr} (e : h.get? it = some (itO k a)) : isIt k h it a 0 := by
  cases k <;> exact ⟨_, e, rfl, rfl⟩
theorem K_of {X : Cx} {pins : List (Addr × Obj)} {σ : L2.St} {H : Hp} {s : Shared} {k : Bool} {a : Addr} {xs : List V} (I : L2.Inv X pins σ H s) (h : SqK X.K k H a xs) : ∃ its : List Value, Vals xs its ∧ isK k s.heap a its.toArray := by
  cases k
  · obtain ⟨its, r, p, _⟩ := I.tuple h
    exact ⟨its, r, p⟩
  · obtain ⟨its, r, p, _⟩ := I.list h
    exact ⟨its, r, p.isList⟩
theorem K_inj {X : Cx} {pins : List (Addr × Obj)} {σ : L2.St} {H : Hp} {s : Shared} {k : Bool} {a : Addr} {xs ys : List V} (I : L2.Inv X pins σ H s) (h : SqK X.K k H a xs) (h' : SqK X.K k H a ys) : xs = ys := by
  cases k
  · exact I.tuple_inj h h'
  · exact I.list_inj h h'

/-! ### enumerate -/
def ItE (K : PySem.W.Frag) (k : Bool) (a : Addr) : It where
  go := fun i H => ∃ (xs : List V) (x : V), SqK K k H a xs ∧ xs[i]? = some x
  yld := fun i H v H' => ∃ T x, v = .ref T ∧ H T = none ∧ H' = upd H T (.tup [.int (i : Nat), x]) ∧ ∀ xs, SqK K k H a xs → xs[i]? = some x
  stop := fun i H => ∃ xs : List V, SqK K k H a xs ∧ xs.length = i
theorem turnE {P : Program} {w : World} {K : PySem.W.Frag} {es : List Expr} {q : Nat} {tp : Pos} (k : Bool) (a e it : Addr) (hai : a ≠ it) (hae : a ≠ e) :
    Turn P w K (.Tuple es q tp) (ItE K k a) [e, it] e (fun i h => (∃ old, IsEnum h e it (i : Nat) old) ∧ isIt k h it a i ∧ e ≠ it) where
  mem := List.mem_cons_self
  obj := fun i h st b hb => by
    obtain ⟨⟨old, he⟩, hi, _⟩ := st
    rcases List.mem_cons.mp hb with z | z
    · rw [z]; exact ⟨_, he, fun v q => nomatch q⟩
    · rw [List.mem_singleton.mp z]; exact hi.there
  keep := fun i h h' st kp => by
    obtain ⟨⟨old, he⟩, hi, ne⟩ := st
    exact ⟨⟨old, kp e List.mem_cons_self _ he⟩, hi.at fun o q => kp it (by simp) o q, ne⟩
  item := by
    rintro X rfl rfl rfl hc i pins s σ H E I hf ⟨⟨old, he⟩, hit, hne⟩ ⟨xs, x, hq, hx⟩
    obtain ⟨its, rv, p⟩ := K_of I hq
    obtain ⟨u, hu, ru⟩ := rv.get hx
    have hlen : i < its.toArray.size := by
      rw [List.size_toArray]
      exact (List.getElem?_eq_some_iff.mp hu).1
    have hel := Heap.lt_size he
    have hil : it < s.heap.objs.size := by obtain ⟨_, q, _⟩ := hit.there; exact Heap.lt_size q
    have hef : e ∉ [it, a] := by simp only [List.mem_cons, List.not_mem_nil, or_false, not_or]; exact ⟨hne, fun z => hae z.symm⟩
    refine wpAny_pyNext_enum_itemC (drawK (A := X.A.in1) k (I.ok.hd hc) it a hai its.toArray) he ⟨hit, p⟩ hlen hne hef fun y h' tk hy ho hst' hT hsz hk => ?_
    have ey : y = u := by
      have hy' : its.toArray[i]? = some y := hy
      rw [List.getElem?_toArray, hu] at hy'
      exact (Option.some.inj hy').symm
    subst ey
    refine ⟨_, rfl, wpAny_letOwnedTupleGo_enum (s := { s with heap := h', toks := tk + 1 }) ho fun h'' he' sb => ?_⟩
    have hT2 : h''.get? s.heap.objs.size = some { cls := .type "tuple", data := .seq #[.int (i : Nat) tk, y] } := (sb.2 _ (Nat.ne_of_gt hel)).trans hT
    have new : ObjOk X.prog X.w (upd H s.heap.objs.size (.tup [.int (i : Nat), x])) h'' s.heap.objs.size (.tup [.int (i : Nat), x]) :=
      ⟨by rw [sizeLine_eq]; exact (by decide : 2 ≤ 16777216), [.int (i : Nat) tk, y], .cons ⟨_, rfl⟩ (.cons ru .nil), ⟨_, hT2, rfl, _, rfl⟩⟩
    have I1 := I.turnedNew (t' := tk + 1) (ch := [e, it]) (fun b ob hb q => (sb.2 b (fun z => hb (by simp [z]))).trans (hk b ob (fun z => hb (by simp [z])) (fun z => hb (by simp [z])) q)) hf (Nat.le_refl _) new
    refine ⟨.ref s.heap.objs.size, _, I1, rfl, ⟨_, x, rfl, I.hok.fresh (Nat.le_refl _), rfl, fun ys hy => by rw [K_inj I hy hq]; exact hx⟩, ⟨⟨y, ?_⟩, hst'.1.at fun o q => (sb.2 it (Ne.symm hne)).trans q, hne⟩, fun b hb => ?_⟩
    · have e1 : ((i + 1 : Nat) : Int) = (i : Int) + 1 := by omega
      rw [e1]
      exact he'
    · have hb' : b < s.heap.objs.size := by
        rcases List.mem_cons.mp hb with z | z
        · rw [z]; exact hel
        · rw [List.mem_singleton.mp z]; exact hil
      rw [upd_ne (Nat.ne_of_lt hb')]
      exact (hf b hb).1
  done := by
    rintro X rfl rfl rfl hc i pins s σ H E I hf ⟨⟨old, he⟩, hit, hne⟩ ⟨xs, hq, hx⟩
    obtain ⟨its, rv, p⟩ := K_of I hq
    obtain ⟨f0, f1, f2, f3, f4, f5⟩ := hf it (by simp)
    have hl : its.toArray.size = i := by rw [List.size_toArray, ← rv.length, hx]
    have D := drawK (prog := X.prog) (w := X.w) (A := X.A.in1) k (I.ok.hd hc) it a hai its.toArray
    rw [hl] at D
    exact wpAny_pyNext_enum_endD D he ⟨hit, p⟩ fun h' eb => ⟨rfl, I.turned (t' := s.toks) (fun b o hb q => eb b o hb q) f0 f1 f3 f4 f5⟩
  self := fun A i s Q E st h => by
    obtain ⟨⟨_, he⟩, _⟩ := st
    exact wpAny_pyIter_enum he h
set_option maxHeartbeats 1000000 in
theorem newE {v : Value} {o : Obj} {C : Heap → Prop} (B : Begins v o C) :
    Meets (Builtin.«enumerate.__new__» ⟨[.type "enumerate", v], []⟩) (fun _ R s => C s.heap ∧
      R (.ok (.ret (.ref (s.heap.push o).objs.size))) { s with heap := (s.heap.push o).push { cls := .type "enumerate", data := .fields #[.none, .bool false, .ref s.heap.objs.size, rawInt 0, .none, .none] } }) := by
  refine .of_wp fun prog w A R s hh => ?_
  obtain ⟨hp, g, d, tk, os⟩ := s
  obtain ⟨h1, h⟩ := hh
  have sub := sub_enumerate
  have q1 : ∀ {A' : Around} {E : Value → Shared → Prop} {Q : Value → Shared → Prop}, Q (.ref hp.objs.size) ⟨hp.push o, g, d, tk, os⟩ → wpAny (model prog w) A' (pyIter v) Q E ⟨hp, g, d, tk, os⟩ := fun q => B.iter prog w _ _ ⟨hp, g, d, tk, os⟩ _ h1 q
  wp_walk using q1
  refine wpAny_stack_any fun st => wpAny_pure ?_
  split
  · rename_i c _ _ _ _ _
    cases (c == Value.type "enumerate") <;> (wp_walk using q1; exact ⟨_, rfl, h⟩)
  · wp_walk using q1
    exact ⟨_, rfl, h⟩
theorem callE {prog : Program} {w : World} {A : Around} {E : Value → Shared → Prop} {s : Shared} {v : Value} {o : Obj} {C : Heap → Prop} {Q : Value → Shared → Prop} (B : Begins v o C) (h1 : C s.heap)
    (h : ∀ h', IsEnum h' (s.heap.objs.size + 1) s.heap.objs.size 0 .none → h'.get? s.heap.objs.size = some o → (∀ b u, s.heap.get? b = some u → h'.get? b = some u) → Q (.ref (s.heap.objs.size + 1)) { s with heap := h' }) :
    wpAny (model prog w) A (PySem.call (.type "enumerate") [v]) Q E s := by
  refine callType_new F.called_enumerate (by decide) (F.typeCall_enumerate_1 _) (F.newCall_enumerate_1 _) (fun obj => F.args_object_init_2 obj _) F.entry_enumerate_new (newE B) ⟨h1, ?_⟩
  have hz : (s.heap.push o).objs.size = s.heap.objs.size + 1 := Heap.size_push ..
  show _ ∧ _
  rw [hz]
  have he : IsEnum ((s.heap.push o).push { cls := .type "enumerate", data := .fields #[.none, .bool false, .ref s.heap.objs.size, rawInt 0, .none, .none] }) (s.heap.objs.size + 1) s.heap.objs.size 0 .none := by
    rw [← hz]
    exact Heap.get?_push_size (s.heap.push o) rfl
  exact ⟨⟨_, he, rfl⟩, h _ he (Heap.get?_push_of_some _ (Heap.get?_push_size _ B.free)) fun b u x => Heap.get?_push_of_some _ (Heap.get?_push_of_some _ x)⟩

/-! ### zip -/
def ItZ (K : PySem.W.Frag) (k l : Bool) (a b : Addr) : It where
  go := fun i H => ∃ (xs ys : List V) (x y : V), SqK K k H a xs ∧ SqK K l H b ys ∧ xs[i]? = some x ∧ ys[i]? = some y
  yld := fun i H v H' => ∃ T x y, v = .ref T ∧ H T = none ∧ H' = upd H T (.tup [x, y]) ∧ (∀ xs, SqK K k H a xs → xs[i]? = some x) ∧ ∀ ys, SqK K l H b ys → ys[i]? = some y
  stop := fun i H => ∃ xs ys : List V, SqK K k H a xs ∧ SqK K l H b ys ∧ i ≤ xs.length ∧ i ≤ ys.length ∧ (xs.length = i ∨ ys.length = i)
/-- where a zip's own objects lie -/
structure ZAt (z TI TO i1 i2 a b : Addr) : Prop where
  sep : ZipSep2 z TI TO i1 i2 [i1, a] [i2, b]
  ne1 : a ≠ i1
  ne2 : b ≠ i2
theorem turnZ {P : Program} {w : World} {K : PySem.W.Frag} {es : List Expr} {q : Nat} {tp : Pos} {k l : Bool} {z TI TO i1 i2 a b : Addr} (S : ZAt z TI TO i1 i2 a b) :
    Turn P w K (.Tuple es q tp) (ItZ K k l a b) [z, TI, TO, i1, i2] z (fun i h => IsZip h z TI TO .none ∧ IsTupOf2 h TI (.ref i1) (.ref i2) ∧ (∃ x y, IsTupOf2 h TO x y) ∧ isIt k h i1 a i ∧ isIt l h i2 b i) where
  mem := List.mem_cons_self
  obj := fun i h st c hc => by
    obtain ⟨hz, hTI, ⟨x, y, hTO⟩, h1, h2⟩ := st
    simp only [List.mem_cons, List.not_mem_nil, or_false] at hc
    rcases hc with q | q | q | q | q <;> rw [q]
    · exact ⟨_, hz, fun v q => nomatch q⟩
    · exact ⟨_, hTI, fun v q => nomatch q⟩
    · exact ⟨_, hTO, fun v q => nomatch q⟩
    · exact h1.there
    · exact h2.there
  keep := fun i h h' st kp => by
    obtain ⟨hz, hTI, ⟨x, y, hTO⟩, h1, h2⟩ := st
    refine ⟨kp z (by simp) _ hz, kp TI (by simp) _ hTI, ⟨x, y, kp TO (by simp) _ hTO⟩, h1.at fun o q => kp i1 (by simp) o q, h2.at fun o q => kp i2 (by simp) o q⟩
  item := by
    rintro X rfl rfl rfl hc i pins s σ H E I hf ⟨hz, hTI, ⟨x0, y0, hTO⟩, h1, h2⟩ ⟨xs, ys, x, y, hqx, hqy, hx, hy⟩
    obtain ⟨its, rv, p⟩ := K_of I hqx
    obtain ⟨its2, rv2, p2⟩ := K_of I hqy
    obtain ⟨u, hu, ru⟩ := rv.get hx
    obtain ⟨u2, hu2, ru2⟩ := rv2.get hy
    have n1 : i < its.toArray.size := by rw [List.size_toArray]; exact (List.getElem?_eq_some_iff.mp hu).1
    have n2 : i < its2.toArray.size := by rw [List.size_toArray]; exact (List.getElem?_eq_some_iff.mp hu2).1
    have hzl := Heap.lt_size hz
    refine wpAny_pyNext_zipD2_item S.sep (drawK (A := X.A.in1) k (I.ok.hd hc) i1 a S.ne1 its.toArray) (drawK (A := X.A.in1) l (I.ok.hd hc) i2 b S.ne2 its2.toArray) hz hTI hTO ⟨h1, p⟩ ⟨h2, p2⟩ n1 n2
      fun w1 w2 h' tk e1 e2 z' TO' s1 s2 hT hsz hk => ?_
    have ew : w1 = u := by
      have q : its.toArray[i]? = some w1 := e1
      rw [List.getElem?_toArray, hu] at q
      exact (Option.some.inj q).symm
    have ew2 : w2 = u2 := by
      have q : its2.toArray[i]? = some w2 := e2
      rw [List.getElem?_toArray, hu2] at q
      exact (Option.some.inj q).symm
    subst ew ew2
    refine ⟨_, rfl, wpAny_letOwnedTupleGo_zip (s := { s with heap := h', toks := tk }) z' fun h'' z'' sb => ?_⟩
    have hT2 : IsTupOf2 h'' s.heap.objs.size w1 w2 := (sb.2 _ (Nat.ne_of_gt hzl)).trans hT
    have new : ObjOk X.prog X.w (upd H s.heap.objs.size (.tup [x, y])) h'' s.heap.objs.size (.tup [x, y]) :=
      ⟨by rw [sizeLine_eq]; exact (by decide : 2 ≤ 16777216), [w1, w2], .cons ru (.cons ru2 .nil), ⟨_, hT2, rfl, _, rfl⟩⟩
    have I1 := I.turnedNew (t' := tk) (ch := [z, TI, TO, i1, i2])
      (fun c o hb q => (sb.2 c (fun q' => hb (by simp [q']))).trans (hk c o (fun q' => hb (by simp [q'])) (fun q' => hb (by simp [q'])) (fun q' => hb (by simp [q'])) (fun q' => hb (by simp [q'])) q)) hf (Nat.le_refl _) new
    refine ⟨.ref s.heap.objs.size, _, I1, rfl, ⟨_, x, y, rfl, I.hok.fresh (Nat.le_refl _), rfl, fun t ht => by rw [K_inj I ht hqx]; exact hx, fun t ht => by rw [K_inj I ht hqy]; exact hy⟩, ⟨z'', ?_, ⟨w1, w2, ?_⟩, ?_, ?_⟩, fun c hcm => ?_⟩
    · exact (sb.2 _ S.sep.TIz).trans (hk _ _ S.sep.TIz S.sep.TITO S.sep.TIi1 S.sep.TIi2 hTI)
    · exact (sb.2 _ S.sep.TOz).trans TO'
    · exact s1.1.at fun o q => (sb.2 _ (fun e => S.sep.zi1 e.symm)).trans q
    · exact s2.1.at fun o q => (sb.2 _ (fun e => S.sep.zi2 e.symm)).trans q
    · have hlt : c < s.heap.objs.size := by
        simp only [List.mem_cons, List.not_mem_nil, or_false] at hcm
        rcases hcm with q | q | q | q | q <;> rw [q]
        · exact hzl
        · exact Heap.lt_size hTI
        · exact Heap.lt_size hTO
        · obtain ⟨_, e1, _⟩ := h1.there; exact Heap.lt_size e1
        · obtain ⟨_, e2, _⟩ := h2.there; exact Heap.lt_size e2
      rw [upd_ne (Nat.ne_of_lt hlt)]
      exact (hf c hcm).1
  done := by
    rintro X rfl rfl rfl hc i pins s σ H E I hf ⟨hz, hTI, ⟨x0, y0, hTO⟩, h1, h2⟩ ⟨xs, ys, hqx, hqy, le1, le2, hend⟩
    obtain ⟨its, rv, p⟩ := K_of I hqx
    obtain ⟨its2, rv2, p2⟩ := K_of I hqy
    have l1 := rv.length
    have l2 := rv2.length
    have s1 : its.toArray.size = its.length := List.size_toArray
    have s2 : its2.toArray.size = its2.length := List.size_toArray
    exact wpAny_pyNext_zipD2_end S.sep (drawK (A := X.A.in1) k (I.ok.hd hc) i1 a S.ne1 its.toArray) (drawK (A := X.A.in1) l (I.ok.hd hc) i2 b S.ne2 its2.toArray) hz hTI hTO ⟨h1, p⟩ ⟨h2, p2⟩ (by omega) (by omega) (by omega)
      fun h' tk hk => ⟨rfl, I.turnedL (t' := tk) (ch := [z, TI, TO, i1, i2]) (fun c o hb q => hk c o (fun q' => hb (by simp [q'])) (fun q' => hb (by simp [q'])) (fun q' => hb (by simp [q'])) (fun q' => hb (by simp [q'])) q) hf⟩
  self := fun A i s Q E st h => by
    obtain ⟨hz, _⟩ := st
    exact wpAny_pyIter_zip hz h

/-! ### .. called -/
section
variable {X : Cx} {pos p tp : Pos} {es : List Expr} {kk : Nat}
def iE (K : PySem.W.Frag) (ta : TA) : TI := fun σ H R => ta σ H fun vs H1 => ∃ k a xs, vs = [.ref a] ∧ SqK K k H1 a xs ∧ R (ItE K k a) H1
def iZ (K : PySem.W.Frag) (ta : TA) : TI := fun σ H R => ta σ H fun vs H1 => ∃ k l a b xs ys, vs = [.ref a, .ref b] ∧ SqK K k H1 a xs ∧ SqK K l H1 b ys ∧ R (ItZ K k l a b) H1
theorem isK_lt {k : Bool} {h : Heap} {a : Addr} {its : Array Value} (x : isK k h a its) : a < h.objs.size := by
  cases k
  · obtain ⟨_, e, _⟩ := (show h.IsTuple a its from x); exact Heap.lt_size e
  · obtain ⟨_, e, _⟩ := (show h.IsList a its from x); exact Heap.lt_size e
theorem pi_E {e : Expr} {ta : TA} (hg : Gl X "enumerate") (hm : X.mg "enumerate" = none) (ha : PA X [e] ta) (hs : starEach [e] X.env = [(false, eval e X.env)]) : PI X (.Tuple es kk tp) (.Call (.Name "enumerate" p) [e] [] pos) (iE X.K ta) := by
  constructor
  intro pins s σ H R I h
  refine Call_ (ld_blt I hg hm boot_enumerate (PyProof.Rows.callWith_type1 (thn (ha.run pos pins s σ H _ I h) fun us s1 ⟨vs, H1, I1, r1, k, a, xs, ev, hq, q⟩ => ?_) hs rfl))
  subst ev
  obtain ⟨u, rfl, r⟩ := vals1 r1
  cases r
  obtain ⟨its, rv, p'⟩ := K_of I1 hq
  have al := isK_lt p'
  refine callE (begK k a its.toArray) p' fun h' he hit hk => wpAny_pyIter_enum he ?_
  have I2 := I1.kept (t' := s1.toks) hk
  have n1 : a ≠ s1.heap.objs.size := Nat.ne_of_lt al
  have n2 : a ≠ s1.heap.objs.size + 1 := Nat.ne_of_lt (Nat.lt_succ_of_lt al)
  refine ⟨s1.heap.objs.size + 1, [s1.heap.objs.size + 1, s1.heap.objs.size], _, _, H1, rfl, I2, turnE k a (s1.heap.objs.size + 1) s1.heap.objs.size n1 n2, ⟨⟨.none, he⟩, isIt.new k hit, Nat.succ_ne_self _⟩, fun b hb => ?_, q⟩
  have hle : s1.heap.objs.size ≤ b := by
    rcases List.mem_cons.mp hb with z | z
    · rw [z]; exact Nat.le_succ _
    · rw [List.mem_singleton.mp z]; exact Nat.le_refl _
  exact I1.fpOk hle (I1.hok.fresh hle)
theorem pi_Z {e e2 : Expr} {ta : TA} (hg : Gl X "zip") (hm : X.mg "zip" = none) (ha : PA X [e, e2] ta) (hs : starEach [e, e2] X.env = (false, eval e X.env) :: starEach [e2] X.env) (hpl : (backTo pos (starEach [e2] X.env)).any (·.1) = false) :
    PI X (.Tuple es kk tp) (.Call (.Name "zip" p) [e, e2] [] pos) (iZ X.K ta) := by
  constructor
  intro pins s σ H R I h
  refine Call_ (ld_blt I hg hm boot_zip (PyProof.Rows.callWith_type1 (thn (ha.run pos pins s σ H _ I h) fun us s1 ⟨vs, H1, I1, r1, k, l, a, b, xs, ys, ev, hq, hq2, q⟩ => ?_) hs hpl))
  subst ev
  obtain ⟨u, u2, rfl, r, r'⟩ := vals2 r1
  cases r
  cases r'
  obtain ⟨its, rv, p'⟩ := K_of I1 hq
  obtain ⟨its2, rv2, p2⟩ := K_of I1 hq2
  have al := isK_lt p'
  have bl := isK_lt p2
  refine zip_begins2 (begK k a its.toArray) (begK l b its2.toArray) p' p2 fun h' hz hTI hTO g1 g2 hsz hk => wpAny_pyIter_zip hz ?_
  have I2 := I1.kept (t' := s1.toks) hk
  have S : ZAt (s1.heap.objs.size + 4) (s1.heap.objs.size + 2) (s1.heap.objs.size + 3) s1.heap.objs.size (s1.heap.objs.size + 1) a b :=
    ⟨zip_sep2 (N := s1.heap.objs.size) (fun c hc => by rw [List.mem_singleton.mp hc]; exact al) (fun c hc => by rw [List.mem_singleton.mp hc]; exact bl), Nat.ne_of_lt al, Nat.ne_of_lt (Nat.lt_succ_of_lt bl)⟩
  refine ⟨_, [s1.heap.objs.size + 4, s1.heap.objs.size + 2, s1.heap.objs.size + 3, s1.heap.objs.size, s1.heap.objs.size + 1], _, _, H1, rfl, I2, turnZ S, ⟨hz, hTI, ⟨_, _, hTO⟩, isIt.new k g1, isIt.new l g2⟩, fun c hc => ?_, q⟩
  have hle : s1.heap.objs.size ≤ c := by
    simp only [List.mem_cons, List.not_mem_nil, or_false] at hc
    rcases hc with z | z | z | z | z <;> rw [z]
    · exact Nat.le_add_right _ _
    · exact Nat.le_add_right _ _
    · exact Nat.le_add_right _ _
    · exact Nat.le_refl _
    · exact Nat.le_add_right _ _
  exact I1.fpOk hle (I1.hok.fresh hle)
end
end Ev
set_option Elab.async false
set_option linter.all false
set_option maxRecDepth 100000
/-! EvG: sequences of items, what is walked, comprehensions. -/
namespace Ev
open PySem PySem.Spec PyProof.Rows L2

/-- a source as a value -/
def SV (Ω : Wd) (A : List Addr) (m : M) (H : Hp) (v : V) : Src → Prop
  | .vals ds => RV Ω A H v (.tup ds)
  | .tmp ds => ∃ a xs, v = .ref a ∧ H a = some (.lst xs) ∧ a ∉ A ∧ RVs Ω A H xs ds
  | .str s => v = .str s
  | .at_ l => RV Ω A H v (.loc l) ∧ ∃ ds, m[l]? = some (.lst ds) ∨ m[l]? = some (.frz ds)
  | _ => False
def tQ (Ω : Wd) (W : WX) (f : Sl → M → R Src) : TE := fun σ H Q => ∃ A m σd, Rl Ω A m H ∧ RS Ω A H σd σ ∧ Gd Ω W σ A H (f σd m) fun s m' A' H' => ∀ v, SV Ω A' m' H' v s → Q v H'

section
variable {X : Cx} {Ω : Wd} {W : WX} {pos p : Pos} {A A' : List Addr} {m : M} {H H' : Hp}
theorem tQ.next {f : Sl → M → R Src} {β : Type} {k : Sl → Src → M → R β} {σ : L2.St} {H : Hp} {P : β → M → List Addr → Hp → Prop} {A : List Addr} {m : M} {σd : Sl}
    (rl : Rl Ω A m H) (rs : RS Ω A H σd σ) (g : Gd Ω W σ A H ((f σd m).bind (k σd)) P) {Q : VK}
    (h : ∀ v H1 A1 m1 s, Le A H A1 H1 → Rl Ω A1 m1 H1 → RS Ω A1 H1 σd σ → SV Ω A1 m1 H1 v s → Gd Ω W σ A1 H1 (k σd s m1) P → Q v H1) : tQ Ω W f σ H Q :=
  ⟨A, m, σd, rl, rs, g.bind.imp fun d m1 A1 H1 le rl1 g1 v rv => h v H1 A1 m1 d le rl1 (rs.mono le) rv g1⟩
theorem srcOf_ok (rl : Rl Ω A m H) {v : V} {d : D} {s : Src} (r : RV Ω A H v d) (e : srcOf m d = some s) : SV Ω A m H v s := by
  cases d <;> try (cases e; done)
  case str x => cases e; exact r.inv_str
  case tup ds => cases e; exact r
  case loc l =>
    dsimp only [srcOf] at e
    split at e
    · rename_i ds e1; cases e; exact ⟨r, ds, .inl e1⟩
    · rename_i ds e1; cases e; exact ⟨r, ds, .inr e1⟩
    · cases e
def qV (f : Sl → M → R D) : Sl → M → R Src := fun σ m => (f σ m).bind fun x m => ofO (srcOf m x) m
theorem s_qv {e : Expr} {f : Sl → M → R D} (h : PE X e (tE Ω W f)) : PE X e (tQ Ω W (qV f)) := by
  refine PE.imp h fun σ H Q ⟨A, m, σd, rl, rs, g⟩ => ?_
  refine tE.next (k := fun σ x m => ofO (srcOf m x) m) rl rs g fun v H1 A1 m1 d le rl1 rs1 rv g1 => ?_
  obtain ⟨s, e, g1⟩ := g1.ofO1
  exact g1.ok rl1 v (srcOf_ok rl1 rv e)
theorem s_qlst {es : List Expr} {fs : Sl → M → R (List D)} (hs : PA X es (tA Ω W fs)) : PE X (.List es pos) (tQ Ω W fun σ m => (fs σ m).bind lstKq) := by
  refine PE.imp (pe_lst hs) fun σ H Q ⟨A, m, σd, rl, rs, g⟩ => ?_
  refine tA.next (k := fun _ => lstKq) rl rs g fun vs H1 A1 m1 ds le rl1 rs1 rvs g1 => ?_
  unfold lstKq at g1
  split at g1
  · rename_i hf
    exact ⟨by rw [rvs.length]; exact fits_le hf, fun p hp => g1 A1 _ (Le.made hp) (rl1.made hp) _ ⟨p, vs, rfl, upd_same, rl1.notin hp, rvs.mono (Le.made hp)⟩⟩
  · exact g1.elim
/-- all items now -/
theorem SV.all {v : V} {s : Src} {l : Bool} {ds : List D} (rl : Rl Ω A m H) (h : SV Ω A m H v s) (e : s.all m = some (l, ds)) : ∃ a xs, v = .ref a ∧ (if l then SqL Ω.K H a xs else SqT Ω.K H a xs) ∧ RVs Ω A H xs ds ∧ (l = false → RV Ω A H v (.tup ds)) := by
  cases s <;> try (cases e; done)
  case vals es =>
    cases e
    obtain ⟨a, xs, rfl, hs, q⟩ := RV.inv_tup h
    exact ⟨a, xs, rfl, hs, q, fun _ => h⟩
  case tmp es =>
    cases e
    obtain ⟨a, xs, rfl, h1, _, q⟩ := h
    exact ⟨a, xs, rfl, .inl (.inl h1), q, fun z => nomatch z⟩
  case at_ k =>
    obtain ⟨r, _⟩ := h
    obtain ⟨a, rfl, ea⟩ := r.inv_loc
    dsimp only [Src.all] at e
    split at e
    · rename_i es e1
      obtain ⟨xs, h1, q⟩ := rl.obj k _ a e1 ea
      cases e
      exact ⟨a, xs, rfl, .inl (.inl h1), q, fun z => nomatch z⟩
    · rename_i es e1
      obtain ⟨o, xs, h1, q⟩ := rl.obj k _ a e1 ea
      cases e
      exact ⟨a, xs, rfl, .inl (.inr ⟨o, h1⟩), q, fun z => nomatch z⟩
    · cases e
theorem asBls_ok : ∀ {ds : List D} {vs : List V} {bs : List Bool}, RVs Ω A H vs ds → asBls ds = some bs → vs = bs.map V.bl
  | [], _, bs, r, e => by
    cases r
    have : bs = [] := by simpa [asBls] using e.symm
    subst this; rfl
  | d :: ds, _, bs, .cons r q, e => by
    unfold asBls at e
    rw [List.mapM_cons] at e
    cases d with
    | bl b =>
      cases r.inv_bl
      cases hp : asBls ds with
      | none => unfold asBls at hp; rw [hp] at e; cases e
      | some cs =>
        have ih := asBls_ok q hp
        unfold asBls at hp
        rw [hp] at e
        have : bs = b :: cs := by simpa using e.symm
        subst this
        rw [ih]; rfl
    | _ => cases e
theorem asInts_ok : ∀ {ds : List D} {vs : List V} {bs : List Int}, RVs Ω A H vs ds → asInts ds = some bs → vs = bs.map V.int
  | [], _, bs, r, e => by
    cases r
    have : bs = [] := by simpa [asInts] using e.symm
    subst this; rfl
  | d :: ds, _, bs, .cons r q, e => by
    unfold asInts at e
    rw [List.mapM_cons] at e
    cases d with
    | int b =>
      cases r.inv_int
      cases hp : asInts ds with
      | none => unfold asInts at hp; rw [hp] at e; cases e
      | some cs =>
        have ih := asInts_ok q hp
        unfold asInts at hp
        rw [hp] at e
        have : bs = b :: cs := by simpa using e.symm
        subst this
        rw [ih]; rfl
    | _ => cases e
def rBq (Ω : Wd) (W : WX) (b : Bi) : List V → Hp → VK → Prop := fun vs H Q => ∃ A m v s σ, vs = [v] ∧ Rl Ω A m H ∧ SV Ω A m H v s ∧ Gd Ω W σ A H ((ofO (s.all m) m).bind fun p m => biS b m p.1 p.2) (pV Ω Q)
theorem call_bq (hK : X.K = Ω.K) (hc : X.calm = true) (b : Bi) : CallR X (biVal b) (rBq Ω W b) := by
  intro pins s σ H vs us Q I rv ⟨A, m, v, sr, σ', ev, rl, sv, g⟩
  subst ev
  obtain ⟨⟨l, ds⟩, e, g⟩ := g.ofO
  obtain ⟨a, xs, rfl, hs, q, ht⟩ := sv.all rl e
  cases b <;> try exact g.elim
  case sum =>
    dsimp only [biS] at g
    cases l
    · exact g.elim
    · obtain ⟨is, e2, g⟩ := g.ofO
      have := asInts_ok q e2
      subst this
      exact cr_sum hc pins s σ H _ us Q I rv ⟨a, is, rfl, hK ▸ hs, g.ok rl _ (.int _)⟩
  case all =>
    dsimp only [biS] at g
    cases l
    · exact g.elim
    · obtain ⟨is, e2, g⟩ := g.ofO
      have := asBls_ok q e2
      subst this
      exact cr_all hc pins s σ H _ us Q I rv ⟨a, is, rfl, hK ▸ hs, g.ok rl _ (.bl _)⟩
  case any =>
    dsimp only [biS] at g
    cases l
    · exact g.elim
    · obtain ⟨is, e2, g⟩ := g.ofO
      have := asBls_ok q e2
      subst this
      exact cr_any hc pins s σ H _ us Q I rv ⟨a, is, rfl, hK ▸ hs, g.ok rl _ (.bl _)⟩
  case tuple =>
    cases l
    · exact call_tuple_of pins s σ H _ us Q I rv ⟨a, xs, rfl, .inr ⟨hK ▸ hs, g.ok rl _ (ht rfl)⟩⟩
    · exact call_tuple_of pins s σ H _ us Q I rv ⟨a, xs, rfl, .inl ⟨hK ▸ hs, fun p hp => g.newTup rl q hp⟩⟩
  case list =>
    refine call_list_of pins s σ H _ us Q I rv ⟨a, xs, rfl, ?_, fun p hp => g.newLst rl q hp⟩
    cases l
    · exact .inr (hK ▸ hs)
    · exact .inl (hK ▸ hs)
theorem s_biq (hK : X.K = Ω.K) (hc : X.calm = true) (b : Bi) {x : Str} (n : BiN X b x) {e : Expr} {f : Sl → M → R Src} (he : PE X e (tQ Ω W f)) (st : NoSt X e [] pos) :
    PE X (.Call (.Name x p) [e] [] pos) (tE Ω W fun σ m => (f σ m).bind fun s m => (ofO (s.all m) m).bind fun p m => biS b m p.1 p.2) := by
  refine PE.imp (s_callV (call_bq (W := W) hK hc b) n (pa_cons he pa_nil st.hd) st) fun σ H Q ⟨A, m, σd, rl, rs, g⟩ => ?_
  refine tQ.next (k := fun σ s m => (ofO (s.all m) m).bind fun p m => biS b m p.1 p.2) rl rs g fun v H1 A1 m1 s le rl1 rs1 sv g1 => ?_
  exact ⟨A1, m1, v, s, σ, rfl, rl1, sv, g1⟩

/-! ### what a loop walks -/
structure SrcOk (Ω : Wd) (A : List Addr) (H : Hp) (s : Src) (J : It) : Prop where
  go : ∀ A' m' H' i d, Le A H A' H' → Rl Ω A' m' H' → s.item m' i = some (some d) → J.go i H' ∧ ∀ x H'', J.yld i H' x H'' → Le A' H' A' H'' ∧ Rl Ω A' m' H'' ∧ RV Ω A' H'' x d
  stop : ∀ A' m' H' i, Le A H A' H' → Rl Ω A' m' H' → s.item m' i = some none → J.stop i H'
def tI (Ω : Wd) (W : WX) (f : Sl → M → R Src) : TI := fun σ H R' => ∃ A m σd, Rl Ω A m H ∧ RS Ω A H σd σ ∧ Gd Ω W σ A H (f σd m) fun s _ A' H' => ∀ J, SrcOk Ω A' H' s J → R' J H'
theorem at_some {ds : List D} {i : Nat} {d : D} (h : at? ds i = some (some d)) : ds[i]? = some d := by
  unfold at? at h
  split at h
  · exact Option.some.inj h
  · cases h
theorem at_none {ds : List D} {i : Nat} (h : at? ds i = some none) : ds.length = i := by
  unfold at? at h
  split at h
  · rename_i hl
    have := List.getElem?_eq_none_iff.mp (Option.some.inj h)
    omega
  · cases h
theorem sqt_iff {a : Addr} {ds : List D} (h : RV Ω A H (.ref a) (.tup ds)) (le : Le A H A' H') : ∃ xs, SqT Ω.K H' a xs ∧ RVs Ω A' H' xs ds := by
  obtain ⟨b, xs, e, hs, q⟩ := (h.mono le).inv_tup
  cases e
  exact ⟨xs, hs, q⟩
/-- what a source is at a later state: its kind, what stands there -/
theorem SV.later {a : Addr} {s : Src} (h : SV Ω A m H (.ref a) s) : (∃ k, (k = true ∨ k = false) ∧ ∀ A' m' H' i o, Le A H A' H' → Rl Ω A' m' H' → s.item m' i = some o → ∃ xs ds, SqK Ω.K k H' a xs ∧ RVs Ω A' H' xs ds ∧ at? ds i = some o) := by
  cases s with
  | vals ds =>
    refine ⟨false, .inr rfl, fun A' m' H' i o le rl e => ?_⟩
    obtain ⟨xs, hs, q⟩ := sqt_iff h le
    exact ⟨xs, ds, hs, q, e⟩
  | tmp ds =>
    refine ⟨true, .inl rfl, fun A' m' H' i o le rl e => ?_⟩
    obtain ⟨b, xs, ev, h1, n, q⟩ := h
    cases ev
    exact ⟨xs, ds, .inl (.inl (le.keep _ _ h1 n fun _ z => nomatch z)), q.mono le, e⟩
  | str s => cases h
  | at_ l =>
    refine ⟨true, .inl rfl, fun A' m' H' i o le rl e => ?_⟩
    obtain ⟨r, _⟩ := h
    obtain ⟨b, ev, ea⟩ := r.inv_loc
    cases ev
    have ea' := le.get ea
    dsimp only [Src.item] at e
    split at e
    · rename_i ds e1
      obtain ⟨xs, h1, q⟩ := rl.obj l _ _ e1 ea'
      exact ⟨xs, ds, .inl (.inl h1), q, e⟩
    · rename_i ds e1
      obtain ⟨u, xs, h1, q⟩ := rl.obj l _ _ e1 ea'
      exact ⟨xs, ds, .inl (.inr ⟨u, h1⟩), q, e⟩
    · cases e
  | zip _ _ => exact h.elim
  | enum _ => exact h.elim
abbrev Later (Ω : Wd) (A : List Addr) (H : Hp) (s : Src) (k : Bool) (a : Addr) : Prop := ∀ A' m' H' i o, Le A H A' H' → Rl Ω A' m' H' → s.item m' i = some o → ∃ xs ds, SqK Ω.K k H' a xs ∧ RVs Ω A' H' xs ds ∧ at? ds i = some o
theorem Later.le {s : Src} {k : Bool} {a : Addr} (h : Later Ω A H s k a) (le : Le A H A' H') : Later Ω A' H' s k a := fun A2 m' H2 i o l2 rl e => h A2 m' H2 i o (le.trans l2) rl e
theorem src_tup {a : Addr} {s : Src} (hk : Later Ω A H s false a) : SrcOk Ω A H s (Itt Ω.K a) where
  go := fun A' m' H' i d le rl e => by
    obtain ⟨xs, ds, hs, q, e2⟩ := hk A' m' H' i _ le rl e
    obtain ⟨v, hv, rv⟩ := q.get (at_some e2)
    refine ⟨⟨xs, v, hs, hv⟩, fun x H'' ⟨eH, hy⟩ => ?_⟩
    subst eH
    have := hy xs hs
    rw [hv] at this
    cases this
    exact ⟨Le.refl _ _, rl, rv⟩
  stop := fun A' m' H' i le rl e => by
    obtain ⟨xs, ds, hs, q, e2⟩ := hk A' m' H' i _ le rl e
    exact ⟨xs, hs, by rw [q.length, at_none e2]; exact Nat.le_refl _⟩
theorem src_lst {a : Addr} {s : Src} (hk : Later Ω A H s true a) : SrcOk Ω A H s (Itl Ω.K a) where
  go := fun A' m' H' i d le rl e => by
    obtain ⟨xs, ds, hs, q, e2⟩ := hk A' m' H' i _ le rl e
    obtain ⟨v, hv, rv⟩ := q.get (at_some e2)
    refine ⟨⟨xs, v, hs, hv⟩, fun x H'' ⟨eH, hy⟩ => ?_⟩
    subst eH
    have := hy xs hs
    rw [hv] at this
    cases this
    exact ⟨Le.refl _ _, rl, rv⟩
  stop := fun A' m' H' i le rl e => by
    obtain ⟨xs, ds, hs, q, e2⟩ := hk A' m' H' i _ le rl e
    exact ⟨xs, hs, by rw [q.length, at_none e2]; exact Nat.le_refl _⟩
theorem src_enum {a : Addr} {s : Src} {k : Bool} (hk : Later Ω A H s k a) : SrcOk Ω A H (.enum s) (ItE Ω.K k a) where
  go := fun A' m' H' i d le rl e => by
    dsimp only [Src.item] at e
    cases e1 : s.item m' i with
    | none => rw [e1] at e; cases e
    | some o =>
      rw [e1] at e
      cases o with
      | none => cases e
      | some d0 =>
        cases e
        obtain ⟨xs, ds, hs, q, e2⟩ := hk A' m' H' i _ le rl e1
        obtain ⟨v, hv, rv⟩ := q.get (at_some e2)
        refine ⟨⟨xs, v, hs, hv⟩, fun x H'' ⟨T, y, ex, hT, eH, hy⟩ => ?_⟩
        subst ex eH
        have := hy xs hs
        rw [hv] at this
        cases this
        exact ⟨Le.made hT, rl.made hT, .tup (.inl upd_same) (rl.notin hT) (.cons (.int _) (.cons (rv.mono (Le.made hT)) .nil))⟩
  stop := fun A' m' H' i le rl e => by
    dsimp only [Src.item] at e
    cases e1 : s.item m' i with
    | none => rw [e1] at e; cases e
    | some o =>
      rw [e1] at e
      cases o with
      | none =>
        obtain ⟨xs, ds, hs, q, e2⟩ := hk A' m' H' i _ le rl e1
        exact ⟨xs, hs, by rw [q.length, at_none e2]⟩
      | some d0 => cases e
theorem at_le {ds : List D} {i : Nat} {o : Option D} (h : at? ds i = some o) : i ≤ ds.length := by
  unfold at? at h
  split at h
  · assumption
  · cases h
theorem src_zip {a b : Addr} {s t : Src} {k l : Bool} (hk : Later Ω A H s k a) (hl : Later Ω A H t l b) : SrcOk Ω A H (.zip s t) (ItZ Ω.K k l a b) where
  go := fun A' m' H' i d le rl e => by
    dsimp only [Src.item] at e
    split at e
    · rename_i x y e1 e2
      cases e
      obtain ⟨xs, ds, hs, q, f1⟩ := hk A' m' H' i _ le rl e1
      obtain ⟨ys, es, hs2, q2, f2⟩ := hl A' m' H' i _ le rl e2
      obtain ⟨v, hv, rv⟩ := q.get (at_some f1)
      obtain ⟨w, hw, rw'⟩ := q2.get (at_some f2)
      refine ⟨⟨xs, ys, v, w, hs, hs2, hv, hw⟩, fun x H'' ⟨T, y, y2, ex, hT, eH, hy, hy2⟩ => ?_⟩
      subst ex eH
      have z1 := hy xs hs
      have z2 := hy2 ys hs2
      rw [hv] at z1
      rw [hw] at z2
      cases z1
      cases z2
      exact ⟨Le.made hT, rl.made hT, .tup (.inl upd_same) (rl.notin hT) (.cons (rv.mono (Le.made hT)) (.cons (rw'.mono (Le.made hT)) .nil))⟩
    · cases e
    · cases e
  stop := fun A' m' H' i le rl e => by
    dsimp only [Src.item] at e
    split at e
    · cases e
    · rename_i o1 o2 hn e1 e2
      obtain ⟨xs, ds, hs, q, f1⟩ := hk A' m' H' i _ le rl e1
      obtain ⟨ys, es, hs2, q2, f2⟩ := hl A' m' H' i _ le rl e2
      refine ⟨xs, ys, hs, hs2, by rw [q.length]; exact at_le f1, by rw [q2.length]; exact at_le f2, ?_⟩
      cases o1 with
      | none => exact .inl (by rw [q.length, at_none f1])
      | some d1 => cases o2 with
        | none => exact .inr (by rw [q2.length, at_none f2])
        | some d2 => exact (hn d1 d2 rfl rfl).elim
    · cases e
theorem src_rng {lo : Int} {n : Nat} : SrcOk Ω A H (.vals (rangeD lo n)) (Itr lo n) where
  go := fun A' m' H' i d le rl e => by
    have h := at_some (show at? (rangeD lo n) i = some (some d) from e)
    unfold rangeD at h
    rw [List.getElem?_map] at h
    cases hr : (List.range n)[i]? with
    | none => rw [hr] at h; cases h
    | some k =>
      rw [hr] at h
      obtain ⟨hlt, e1⟩ := List.getElem?_eq_some_iff.mp hr
      rw [List.length_range] at hlt
      have e2 : i = k := by simpa using e1
      subst e2
      cases h
      refine ⟨hlt, fun x H'' ⟨eH, ex⟩ => ?_⟩
      subst eH ex
      exact ⟨Le.refl _ _, rl, .int _⟩
  stop := fun A' m' H' i le rl e => by
    have h := at_none (show at? (rangeD lo n) i = some none from e)
    have : n ≤ i := by unfold rangeD at h; simp at h; omega
    exact this
theorem src_str {x : Str} : SrcOk Ω A H (.str x) (Its x) where
  go := fun A' m' H' i d le rl e => by
    have h := at_some (show at? (chars x) i = some (some d) from e)
    unfold chars at h
    rw [List.getElem?_map] at h
    cases hr : x.cps.toList[i]? with
    | none => rw [hr] at h; cases h
    | some c =>
      rw [hr] at h
      cases h
      have hr2 : x.cps[i]? = some c := by simpa using hr
      obtain ⟨hlt, _⟩ := Array.getElem?_eq_some_iff.mp hr2
      refine ⟨hlt, fun y H'' ⟨eH, c', hc', ey⟩ => ?_⟩
      subst eH ey
      rw [hr2] at hc'
      cases hc'
      exact ⟨Le.refl _ _, rl, .str _⟩
  stop := fun A' m' H' i le rl e => by
    have h := at_none (show at? (chars x) i = some none from e)
    have : x.cps.size ≤ i := by unfold chars at h; simp at h; omega
    exact this

variable {tg : Expr}
theorem s_itq (hK : X.K = Ω.K) {e : Expr} {f : Sl → M → R Src} (h : PE X e (tQ Ω W f)) : PI X tg e (tI Ω W f) := by
  constructor
  intro pins s σ H R' I ⟨A, m, σd, rl, rs, g⟩
  have any : ∀ {Q : VK}, (∀ sr m1, f σd m = .ok sr m1 → ∀ A1 H1 v, Le A H A1 H1 → Rl Ω A1 m1 H1 → SV Ω A1 m1 H1 v sr → (∀ J, SrcOk Ω A1 H1 sr J → R' J H1) → Q v H1) → tQ Ω W f σ H Q := fun {Q} hq => by
    refine ⟨A, m, σd, rl, rs, ?_⟩
    cases e : f σd m with
    | stuck => rw [e] at g; exact g
    | exc x m' => rw [e] at g; exact g
    | ok sr m1 =>
      rw [e] at g
      exact fun A1 H1 le rl1 v sv => hq sr m1 e A1 H1 v le rl1 sv (g A1 H1 le rl1)
  cases e : f σd m with
  | stuck => rw [e] at g; exact g.elim
  | exc x m' =>
    refine (pi_tup h).run pins s σ H R' I (any fun sr m1 e1 => by rw [e] at e1; cases e1)
  | ok sr m1 =>
    cases sr with
    | vals ds =>
      refine (pi_tup h).run pins s σ H R' I (any fun sr m1 e1 A1 H1 v le rl1 sv fin => ?_)
      rw [e] at e1; cases e1
      obtain ⟨a, xs, rfl, hs, q⟩ := RV.inv_tup sv
      obtain ⟨k, hk, hl⟩ := SV.later sv
      refine ⟨a, rfl, ⟨xs, hK ▸ hs⟩, hK ▸ fin _ (src_tup fun A' m' H' i o le rl e => ?_)⟩
      obtain ⟨ys, hs', q'⟩ := sqt_iff sv le
      exact ⟨ys, ds, hs', q', e⟩
    | tmp ds =>
      refine (pi_list h).run pins s σ H R' I (any fun sr m1 e1 A1 H1 v le rl1 sv fin => ?_)
      rw [e] at e1; cases e1
      obtain ⟨a, xs, rfl, h1, n, q⟩ := sv
      refine ⟨a, rfl, ⟨xs, .inl (.inl h1)⟩, hK ▸ fin _ (src_lst fun A' m' H' i o le rl e => ?_)⟩
      exact ⟨xs, ds, .inl (.inl (le.keep _ _ h1 n fun _ z => nomatch z)), q.mono le, e⟩
    | at_ l =>
      refine (pi_list h).run pins s σ H R' I (any fun sr m1 e1 A1 H1 v le rl1 sv fin => ?_)
      rw [e] at e1; cases e1
      obtain ⟨r, ds, hm⟩ := id sv
      obtain ⟨a, rfl, ea⟩ := r.inv_loc
      have hex : ∃ xs, SqL Ω.K H1 a xs := by
        rcases hm with hm | hm
        · obtain ⟨xs, h1, _⟩ := rl1.obj l _ a hm ea
          exact ⟨xs, .inl (.inl h1)⟩
        · obtain ⟨o, xs, h1, _⟩ := rl1.obj l _ a hm ea
          exact ⟨xs, .inl (.inr ⟨o, h1⟩)⟩
      obtain ⟨xs, hx⟩ := hex
      refine ⟨a, rfl, ⟨xs, hK ▸ hx⟩, hK ▸ fin _ (src_lst fun A' m' H' i o le rl e => ?_)⟩
      have ea' := le.get ea
      dsimp only [Src.item] at e
      split at e
      · rename_i es e1
        obtain ⟨xs, h1, q⟩ := rl.obj l _ _ e1 ea'
        exact ⟨xs, es, .inl (.inl h1), q, e⟩
      · rename_i es e1
        obtain ⟨u, xs, h1, q⟩ := rl.obj l _ _ e1 ea'
        exact ⟨xs, es, .inl (.inr ⟨u, h1⟩), q, e⟩
      · cases e
    | str x =>
      refine (pi_str h).run pins s σ H R' I (any fun sr m1 e1 A1 H1 v le rl1 sv fin => ?_)
      rw [e] at e1; cases e1
      exact ⟨x, sv, fin _ src_str⟩
    | zip _ _ => refine (pi_tup h).run pins s σ H R' I (any fun sr m1 e1 A1 H1 v le rl1 sv fin => by rw [e] at e1; cases e1; exact sv.elim)
    | enum _ => refine (pi_tup h).run pins s σ H R' I (any fun sr m1 e1 A1 H1 v le rl1 sv fin => by rw [e] at e1; cases e1; exact sv.elim)
theorem rOk_ok {i : Int} (h : rOk i = true) : -(2 ^ 62) ≤ i ∧ i < 2 ^ 62 := by
  unfold rOk at h
  simpa [Bool.and_eq_true, decide_eq_true_eq] using h
structure RgN (X : Cx) (x : Str) : Prop where
  gl : Gl X x
  mg : X.mg x = none
theorem s_itr1 (n : RgN X "range") {a : Expr} {fa : Sl → M → R D} (ha : PE X a (tE Ω W fa)) (st : NoSt X a [] pos) : PI X tg (.Call (.Name "range" p) [a] [] pos) (tI Ω W fun σ m => (fa σ m).bind rng1K) := by
  constructor
  intro pins s σ H R' I ⟨A, m, σd, rl, rs, g⟩
  refine (pi_range1 (tg := tg) n.gl n.mg (pa_cons ha pa_nil st.hd) st.hd).run pins s σ H R' I ?_
  refine tE.next (k := fun _ => rng1K) rl rs g fun v H1 A1 m1 d le rl1 rs1 rv g1 => ?_
  unfold rng1K at g1
  split at g1
  · rename_i i
    cases rv.inv_int
    split at g1
    · rename_i hr
      have h2 := rOk_ok hr
      exact ⟨i, rfl, h2.1, h2.2, g1.ok rl1 _ src_rng⟩
    · exact g1.elim
  · exact g1.elim
theorem s_itr2 (n : RgN X "range") {a b : Expr} {fa fb : Sl → M → R D} (ha : PE X a (tE Ω W fa)) (hb : PE X b (tE Ω W fb)) (st : NoSt X a [b] pos) (st2 : NoSt X b [] pos) : PI X tg (.Call (.Name "range" p) [a, b] [] pos) (tI Ω W fun σ m => (fa σ m).bind fun x m => (fb σ m).bind fun y m => rng2K x y m) := by
  constructor
  intro pins s σ H R' I ⟨A, m, σd, rl, rs, g⟩
  have e2 : starEach [b] X.env = [(false, eval b X.env)] := st2.hd
  refine (pi_range2 (tg := tg) n.gl n.mg (pa_cons ha (pa_cons hb pa_nil st2.hd) st.hd) (by rw [st.hd, e2]) e2).run pins s σ H R' I ?_
  refine tE.next (k := fun σ x m => (fb σ m).bind fun y m => rng2K x y m) rl rs g fun v H1 A1 m1 d le rl1 rs1 rv g1 => ?_
  refine tE.next (k := fun σ y m => rng2K d y m) rl1 rs1 g1 fun u H2 A2 m2 d2 le2 rl2 rs2 rv2 g2 => ?_
  unfold rng2K at g2
  split at g2
  · rename_i i j
    cases rv.inv_int
    cases rv2.inv_int
    split at g2
    · rename_i hr
      obtain ⟨h1, h2⟩ := Bool.and_eq_true_iff.mp hr
      have h1 := rOk_ok h1
      have h2 := rOk_ok h2
      exact ⟨i, j, rfl, ⟨h1.1, h1.2, h2.1, h2.2⟩, g2.ok rl2 _ src_rng⟩
    · exact g2.elim
  · exact g2.elim
theorem SV.seq {v : V} {s : Src} (h : SV Ω A m H v s) (rl : Rl Ω A m H) : (∃ x, s = .str x) ∨ ∃ k a xs, v = .ref a ∧ SqK Ω.K k H a xs ∧ Later Ω A H s k a := by
  cases s with
  | str x => exact .inl ⟨x, rfl⟩
  | vals ds =>
    obtain ⟨a, xs, rfl, hs, q⟩ := RV.inv_tup h
    refine .inr ⟨false, a, xs, rfl, hs, fun A' m' H' i o le rl e => ?_⟩
    obtain ⟨ys, hs', q'⟩ := sqt_iff h le
    exact ⟨ys, ds, hs', q', e⟩
  | tmp ds =>
    obtain ⟨a, xs, rfl, h1, n, q⟩ := h
    exact .inr ⟨true, a, xs, rfl, .inl (.inl h1), fun A' m' H' i o le rl e => ⟨xs, ds, .inl (.inl (le.keep _ _ h1 n fun _ z => nomatch z)), q.mono le, e⟩⟩
  | at_ l =>
    obtain ⟨r, ds, hm⟩ := h
    obtain ⟨a, rfl, ea⟩ := r.inv_loc
    have hex : ∃ xs, SqL Ω.K H a xs := by
      rcases hm with hm | hm
      · obtain ⟨xs, h1, _⟩ := rl.obj l _ a hm ea
        exact ⟨xs, .inl (.inl h1)⟩
      · obtain ⟨o, xs, h1, _⟩ := rl.obj l _ a hm ea
        exact ⟨xs, .inl (.inr ⟨o, h1⟩)⟩
    obtain ⟨xs, hx⟩ := hex
    refine .inr ⟨true, a, xs, rfl, hx, fun A' m' H' i o le rl e => ?_⟩
    have ea' := le.get ea
    dsimp only [Src.item] at e
    split at e
    · rename_i es e1
      obtain ⟨xs, h1, q⟩ := rl.obj l _ _ e1 ea'
      exact ⟨xs, es, .inl (.inl h1), q, e⟩
    · rename_i es e1
      obtain ⟨u, xs, h1, q⟩ := rl.obj l _ _ e1 ea'
      exact ⟨xs, es, .inl (.inr ⟨u, h1⟩), q, e⟩
    · cases e
  | zip _ _ => exact h.elim
  | enum _ => exact h.elim
theorem seqOf_ok (rl : Rl Ω A m H) {v : V} {d : D} {s : Src} (r : RV Ω A H v d) (e : seqOf m d = some s) : ∃ k a xs, v = .ref a ∧ SqK Ω.K k H a xs ∧ Later Ω A H s k a := by
  unfold seqOf at e
  split at e
  · cases e
  · rename_i o hn
    rcases (srcOf_ok rl r e).seq rl with ⟨x, rfl⟩ | h
    · exact (hn x e).elim
    · exact h
theorem s_ien (n : RgN X "enumerate") {a : Expr} {es : List Expr} {kk : Nat} {tp : Pos} {fa : Sl → M → R D} (ha : PE X a (tE Ω W fa)) (hK : X.K = Ω.K) (st : NoSt X a [] pos) :
    PI X (.Tuple es kk tp) (.Call (.Name "enumerate" p) [a] [] pos) (tI Ω W fun σ m => (fa σ m).bind fun x m => (ofO (seqOf m x) m).bind fun s m => .ok (.enum s) m) := by
  constructor
  intro pins s σ H R' I ⟨A, m, σd, rl, rs, g⟩
  refine (pi_E (es := es) (kk := kk) (tp := tp) n.gl n.mg (pa_cons ha pa_nil st.hd) st.hd).run pins s σ H R' I ?_
  refine tE.next (k := fun _ x m => (ofO (seqOf m x) m).bind fun s m => R.ok (Src.enum s) m) rl rs g fun v H1 A1 m1 d le rl1 rs1 rv g1 => ?_
  obtain ⟨sr, e, g1⟩ := g1.ofO
  obtain ⟨k, a, xs, rfl, hs, hk⟩ := seqOf_ok rl1 rv e
  exact ⟨k, a, xs, rfl, hK ▸ hs, hK ▸ g1.ok rl1 _ (src_enum hk)⟩
theorem s_izip (n : RgN X "zip") {a b : Expr} {es : List Expr} {kk : Nat} {tp : Pos} {fa fb : Sl → M → R D} (ha : PE X a (tE Ω W fa)) (hb : PE X b (tE Ω W fb)) (hK : X.K = Ω.K) (st : NoSt X a [b] pos) (st2 : NoSt X b [] pos) :
    PI X (.Tuple es kk tp) (.Call (.Name "zip" p) [a, b] [] pos) (tI Ω W (zipF fa fb)) := by
  constructor
  intro pins s σ H R' I ⟨A, m, σd, rl, rs, g⟩
  refine (pi_Z (es := es) (kk := kk) (tp := tp) n.gl n.mg (pa_cons ha (pa_cons hb pa_nil st2.hd) st.hd) st.hd st.tl).run pins s σ H R' I ?_
  refine tE.next (k := fun σ x m => (fb σ m).bind fun y m => (ofO (seqOf m x) m).bind fun s m => (ofO (seqOf m y) m).bind fun t m => R.ok (Src.zip s t) m) rl rs g fun v H1 A1 m1 d le rl1 rs1 rv g1 => ?_
  refine tE.next (k := fun _ y m => (ofO (seqOf m d) m).bind fun s m => (ofO (seqOf m y) m).bind fun t m => R.ok (Src.zip s t) m) rl1 rs1 g1 fun u H2 A2 m2 d2 le2 rl2 rs2 rv2 g2 => ?_
  obtain ⟨s1, e1, g2⟩ := g2.ofO
  obtain ⟨s2, e2, g2⟩ := g2.ofO
  obtain ⟨k, a, xs, rfl, hs, hk⟩ := seqOf_ok rl2 (rv.mono le2) e1
  obtain ⟨l, b, ys, rfl, hs2, hl⟩ := seqOf_ok rl2 rv2 e2
  exact ⟨k, l, a, b, xs, ys, rfl, hK ▸ hs, hK ▸ hs2, hK ▸ g2.ok rl2 _ (src_zip hk hl)⟩

/-! ### targets -/
/-- a target's reading: what it stores -/
def tT (Ω : Wd) (t : T) : TG := fun v σ H Q => ∃ A m d σd σd', Rl Ω A m H ∧ RS Ω A H σd σ ∧ RV Ω A H v d ∧ T.put t d σd = some σd' ∧ ∀ σ', RS Ω A H σd' σ' → (∀ vs, (∀ i ∈ t.ixs, i ∈ vs) → L2.wipe σ' vs = L2.wipe σ vs) → Q σ' H
end
end Ev
set_option Elab.async false
set_option linter.all false
set_option maxRecDepth 100000
/-! EvH: targets, comprehensions. -/
namespace Ev
open PySem PySem.Spec PyProof.Rows L2
theorem wipe_set {σ : L2.St} {i : Nat} {o : Option V} : ∀ {vs : List Nat}, i ∈ vs → L2.wipe (σ.set i o) vs = L2.wipe σ vs
  | [], h => nomatch h
  | v :: vs, h => by
    show (L2.wipe (σ.set i o) vs).set v none = (L2.wipe σ vs).set v none
    by_cases hv : i ∈ vs
    · rw [wipe_set hv]
    · have e : i = v := by
        rcases List.mem_cons.mp h with q | q
        · exact q
        · exact absurd q hv
      subst e
      have : L2.wipe (σ.set i o) vs = (L2.wipe σ vs).set i o := by
        clear h
        induction vs with
        | nil => rfl
        | cons w ws ih =>
          have hw : i ∉ ws := fun q => hv (List.mem_cons_of_mem _ q)
          have hne : i ≠ w := fun q => hv (q ▸ List.mem_cons_self)
          show (L2.wipe (σ.set i o) ws).set w none = ((L2.wipe σ ws).set w none).set i o
          rw [ih hw, List.set_comm _ _ (Ne.symm hne)]
      rw [this, List.set_set]
section
variable {X : Cx} {Ω : Wd} {W : WX} {pos p : Pos} {A A' : List Addr} {m : M} {H H' : Hp}
def tTs (Ω : Wd) (t : T) : TGs := fun vs σ H Q => ∃ A m ds σd σd', Rl Ω A m H ∧ RS Ω A H σd σ ∧ RVs Ω A H vs ds ∧ T.puts t ds σd = some σd' ∧ ∀ σ', RS Ω A H σd' σ' → (∀ vs, (∀ i ∈ t.ixs, i ∈ vs) → L2.wipe σ' vs = L2.wipe σ vs) → Q σ' H
theorem PG.imp {e : Expr} {t t' : TG} (h : PG X e t) (i : ∀ v σ H Q, t' v σ H Q → t v σ H Q) : PG X e t' := ⟨fun p s σ H v u Q I r q => h.run p s σ H v u Q I r (i v σ H Q q)⟩
theorem PGs.imp {e : List Expr} {t t' : TGs} (h : PGs X e t) (i : ∀ v σ H Q, t' v σ H Q → t v σ H Q) : PGs X e t' := ⟨fun p s σ H v u Q I r q => h.run p s σ H v u Q I r (i v σ H Q q)⟩
theorem s_tnm {i : Nat} {x : Str} (hN : X.N.Nodup) (hi : X.N[i]? = some x) (hx : Loc X.env.scope x) (hf : X.fn x = true ∨ X.env.scope.names.lookup x = some .local) : PG X (.Name x pos) (tT Ω (.nm i)) := by
  refine PG.imp (pg_name hN hi hx hf) fun v σ H Q ⟨A, m, d, σd, σd', rl, rs, rv, hp, hq⟩ => ?_
  simp only [T.put] at hp
  split at hp
  · cases hp
    exact hq _ (rs.set rv) fun vs hv => wipe_set (hv i List.mem_cons_self)
  · cases hp
theorem s_tnil : PGs X [] (tTs Ω .nil) := by
  refine PGs.imp pgs_nil fun vs σ H Q ⟨A, m, ds, σd, σd', rl, rs, rv, hp, hq⟩ => ?_
  cases ds with
  | nil =>
    cases rv
    simp only [T.puts] at hp
    cases hp
    exact ⟨rfl, hq _ rs fun vs hv => rfl⟩
  | cons d ds => simp only [T.puts] at hp; cases hp
theorem s_tcons {e : Expr} {es : List Expr} {t ts : T} (h1 : PG X e (tT Ω t)) (h2 : PGs X es (tTs Ω ts)) (hs : (assignEach (e :: es) X.env).map (·.2) = assign e X.env :: (assignEach es X.env).map (·.2)) : PGs X (e :: es) (tTs Ω (.cons t ts)) := by
  refine PGs.imp (pgs_cons h1 h2 hs) fun vs σ H Q ⟨A, m, ds, σd, σd', rl, rs, rv, hp, hq⟩ => ?_
  cases ds with
  | nil => simp only [T.puts] at hp; cases hp
  | cons d ds =>
    cases rv with
    | cons r q =>
      simp only [T.puts] at hp
      cases e1 : T.put t d σd with
      | none => rw [e1] at hp; cases hp
      | some σ1 =>
        rw [e1] at hp
        refine ⟨_, _, rfl, A, m, d, σd, σ1, rl, rs, r, e1, fun σ2 rs2 w2 => ?_⟩
        refine ⟨A, m, ds, σ1, σd', rl, rs2, q, hp, fun σ3 rs3 w3 => hq σ3 rs3 fun vs hv => ?_⟩
        rw [w3 vs fun i hi => hv i (List.mem_append_right _ hi), w2 vs fun i hi => hv i (List.mem_append_left _ hi)]
theorem puts_length : ∀ {ts : T} {ds : List D} {σ σ' : Sl}, T.puts ts ds σ = some σ' → ∀ {n : Nat}, ts.count = n → ds.length = n
  | .nil, [], _, _, _, _, e => e
  | .nil, _ :: _, _, _, h, _, _ => by simp only [T.puts] at h; cases h
  | .cons t ts, [], _, _, h, _, _ => by simp only [T.puts] at h; cases h
  | .cons t ts, d :: ds, σ, σ', h, n, e => by
    simp only [T.puts] at h
    cases e1 : T.put t d σ with
    | none => rw [e1] at h; cases h
    | some σ1 =>
      rw [e1] at h
      have := puts_length (ts := ts) (ds := ds) (σ := σ1) h rfl
      simp only [T.count] at e
      simp only [List.length_cons]
      omega
  | .nm _, ds, _, _, h, _, _ => by cases ds <;> (simp only [T.puts] at h; cases h)
  | .tp _, ds, _, _, h, _, _ => by cases ds <;> (simp only [T.puts] at h; cases h)
theorem s_ttp (hK : X.K = Ω.K) {es : List Expr} {k : Nat} {ts : T} (hc : X.calm = true) (h : PGs X es (tTs Ω ts)) (hn : (assignEach es X.env).length = ts.count) (hst : (assignEach es X.env).findIdx? (·.1) = none) : PG X (.Tuple es k pos) (tT Ω (.tp ts)) := by
  refine PG.imp (pg_tup hc h hn hst) fun v σ H Q ⟨A, m, d, σd, σd', rl, rs, rv, hp, hq⟩ => ?_
  cases d <;> try (simp only [T.put] at hp; cases hp; done)
  rename_i ds
  simp only [T.put] at hp
  obtain ⟨a, xs, rfl, hs, q⟩ := rv.inv_tup
  exact ⟨a, xs, rfl, hK ▸ hs, by rw [q.length]; exact puts_length hp rfl, A, m, ds, σd, σd', rl, rs, q, hp, hq⟩

/-! ### a list that nothing names is changed -/
theorem RV.except {D : Addr} {l : List V} {o : HO} (hD : H D = some (.lst l)) : ∀ {v : V} {d : Ev.D}, RV Ω A H v d → RV Ω A (upd H D o) v d := by
  have key : ∀ {a : Addr} {xs : List V}, Rd H a (.tup xs) → Rd (upd H D o) a (.tup xs) := fun {a xs} h => by
    rcases h with h | ⟨u, h⟩
    · exact .inl (by rw [upd_ne (ne_of h hD (by intro z; cases z))]; exact h)
    · exact .inr ⟨u, by rw [upd_ne (ne_of h hD (by intro z; cases z))]; exact h⟩
  intro v d h
  exact RV.rec (motive_1 := fun v d _ => RV Ω A (upd H D o) v d) (motive_2 := fun vs ds _ => RVs Ω A (upd H D o) vs ds)
    .non .bl .int .str .ty (fun h n _ q => .tup (key h) n q) (fun h _ q => .tupK h q) (fun e => .loc e) .fn .cls .nil (fun _ _ r q => .cons r q) h
theorem RVs.except {D : Addr} {l : List V} {o : HO} (hD : H D = some (.lst l)) : ∀ {vs : List V} {ds : List Ev.D}, RVs Ω A H vs ds → RVs Ω A (upd H D o) vs ds
  | _, _, .nil => .nil
  | _, _, .cons r q => .cons (RV.except hD r) (RVs.except hD q)
theorem Rl.except {D : Addr} {l : List V} {o : HO} (hD : H D = some (.lst l)) (hA : D ∉ A) (rl : Rl Ω A m H) : Rl Ω A m (upd H D o) := by
  refine ⟨rl.len, rl.nd, fun k u a e1 e2 => ?_⟩
  have ne : a ≠ D := fun z => hA (z ▸ List.mem_of_getElem? e2)
  have h := rl.obj k u a e1 e2
  cases u with
  | lst ds => obtain ⟨xs, h1, h2⟩ := h; exact ⟨xs, by rw [upd_ne ne]; exact h1, h2.except hD⟩
  | frz ds => obtain ⟨ob, xs, h1, h2⟩ := h; exact ⟨ob, xs, by rw [upd_ne ne]; exact h1, h2.except hD⟩
  | ins c fs => obtain ⟨dx, vs, h1, h2, h3⟩ := h; exact ⟨dx, vs, by rw [upd_ne ne]; exact h1, h2, h3.except hD⟩
  | dct _ => exact h.elim
theorem RS.except {D : Addr} {l : List V} {o : HO} {σd : Sl} {σ : L2.St} (hD : H D = some (.lst l)) (rs : RS Ω A H σd σ) : RS Ω A (upd H D o) σd σ :=
  ⟨rs.len, fun i d e => let ⟨v, h1, h2⟩ := rs.at_ i d e; ⟨v, h1, h2.except hD⟩⟩
theorem Le.except {D : Addr} {o : HO} (h0 : H D = none) (le : Le A H A' H') : Le A H A' (upd H' D o) :=
  ⟨le.pre, fun a u e n t => by rw [upd_ne (ne_of_none e h0)]; exact le.keep a u e n t, le.new, fun a e => by
    by_cases hb : a = D
    · rw [hb]; exact h0
    · rw [upd_ne hb] at e; exact le.there a e⟩
end
end Ev
set_option Elab.async false
set_option linter.all false
set_option maxRecDepth 100000
/-! EvI: comprehensions. -/
namespace Ev
open PySem PySem.Spec PyProof.Rows L2

theorem at_get {ds : List D} {i : Nat} (h : i ≤ ds.length) : at? ds i = some ds[i]? := if_pos h
theorem flat_item (m : M) : ∀ {s : Src} {ds : List D}, s.flat = some ds → ∀ i, i ≤ ds.length → s.item m i = some ds[i]?
  | .vals _, _, e, i, h => by cases e; exact at_get h
  | .tmp _, _, e, i, h => by cases e; exact at_get h
  | .str _, _, e, i, h => by cases e; exact at_get h
  | .at_ _, _, e, _, _ => by cases e
  | .zip s t, ds, e, i, h => by
    dsimp only [Src.flat] at e
    split at e
    · rename_i xs ys e1 e2
      cases e
      have hl : i ≤ min xs.length ys.length := by simpa using h
      have i1 := flat_item m e1 i (by omega)
      have i2 := flat_item m e2 i (by omega)
      dsimp only [Src.item]
      rw [i1, i2, List.getElem?_map, List.zip, List.getElem?_zipWith]
      cases xs[i]? <;> cases ys[i]? <;> rfl
    · cases e
  | .enum s, ds, e, i, h => by
    dsimp only [Src.flat] at e
    cases e1 : s.flat with
    | none => rw [e1] at e; cases e
    | some xs =>
      rw [e1] at e
      cases e
      have i1 := flat_item m e1 i (by simpa using h)
      dsimp only [Src.item]
      rw [i1, List.getElem?_map, List.getElem?_zipIdx]
      cases xs[i]? <;> simp
theorem not_stuck {Ω : Wd} {W : WX} {σ : L2.St} {A : List Addr} {H : Hp} {α : Type} {r : R α} {P : α → M → List Addr → Hp → Prop} (g : Gd Ω W σ A H r P) : r ≠ .stuck := by
  intro e; rw [e] at g; exact g
theorem bind_not_stuck {α β : Type} {r : R α} {k : α → M → R β} (h : r.bind k ≠ .stuck) : r ≠ .stuck := fun e => h (by rw [e]; rfl)

/-! ### the turns of a comprehension -/
/-- r: what is left of the turns, from turn i on, acc collected -/
inductive CRest (s : Src) (tn : D → M → R (Option D)) : Nat → Nat → List D → M → R (List D) → Prop
  | flat {ds : List D} {i : Nat} {acc : List D} {m : M} : s.flat = some ds → i ≤ ds.length → CRest s tn (ds.length - i) i acc m (compL tn (ds.drop i) acc m)
  | dyn {n i : Nat} {acc : List D} {m : M} : CRest s tn n i acc m (compN s tn n i acc m)
theorem CRest.start {W : Nat} {s : Src} {tn : D → M → R (Option D)} {m : M} : ∃ n, CRest s tn n 0 [] m (compS W s tn m) := by
  unfold compS
  cases e : s.flat with
  | some ds => exact ⟨_, by simpa using CRest.flat (tn := tn) (i := 0) (acc := []) (m := m) e (Nat.zero_le _)⟩
  | none => exact ⟨W, .dyn⟩
theorem CRest.step {s : Src} {tn : D → M → R (Option D)} {n i : Nat} {acc : List D} {m : M} {r : R (List D)} (h : CRest s tn n i acc m r) (hr : r ≠ .stuck) :
    (s.item m i = some none ∧ r = .ok acc m) ∨ ∃ d k, s.item m i = some (some d) ∧ r = (tn d m).bind k ∧ ∃ n', n' < n ∧ ∀ o m', CRest s tn n' (i + 1) (o.elim acc fun y => acc ++ [y]) m' (k o m') := by
  cases h with
  | flat e hi =>
    rename_i ds
    have it := flat_item m e i hi
    by_cases hlt : i < ds.length
    · rw [List.drop_eq_getElem_cons hlt]
      refine .inr ⟨ds[i], fun o m' => compL tn (ds.drop (i + 1)) (o.elim acc fun y => acc ++ [y]) m', by rw [it, List.getElem?_eq_getElem hlt], rfl, ds.length - (i + 1), by omega, fun o m' => .flat e hlt⟩
    · have hi' : i = ds.length := by omega
      subst hi'
      exact .inl ⟨by rw [it]; simp, by simp [compL]⟩
  | dyn =>
    cases n with
    | zero => exact absurd rfl hr
    | succ n =>
      simp only [compN] at hr ⊢
      split at hr
      · exact absurd rfl hr
      · rename_i e; exact .inl ⟨e, by simp [e]⟩
      · rename_i d e
        refine .inr ⟨d, fun o m' => compN s tn n (i + 1) (o.elim acc fun y => acc ++ [y]) m', e, by simp [e], n, Nat.lt_succ_self n, fun o m' => .dyn⟩

theorem CRest.len {s : Src} {tn : D → M → R (Option D)} : ∀ (n : Nat) {i : Nat} {acc : List D} {m : M} {r : R (List D)} {ds : List D} {m' : M}, CRest s tn n i acc m r → r = .ok ds m' → acc.length ≤ ds.length := by
  intro n
  induction n using Nat.strongRecOn with
  | _ n ih =>
    intro i acc m r ds m' h e
    rcases h.step (by rw [e]; exact fun z => nomatch z) with ⟨_, e1⟩ | ⟨d, k, _, e1, n', hn, ck⟩
    · rw [e] at e1; cases e1; exact Nat.le_refl _
    · rw [e] at e1
      obtain ⟨o, m1, _, e2⟩ := R.bind_inv e1.symm
      have := ih n' hn (ck o m1) e2
      cases o with
      | none => exact this
      | some y => simp at this; omega
theorem turnC_exc {own : List (Str × Nat)} {t : T} {c : Option (Sl → M → R D)} {f : Sl → M → R D} {σd : Sl} {d : D} {m m' : M} {x : XD} : turnC own t c f σd d m ≠ .exc x m' := by
  have key : ∀ {α : Type} (r : R α), r.nox ≠ .exc x m' := fun r => by cases r <;> (intro z; cases z)
  unfold turnC
  split
  · split
    · exact key _
    · exact key _
  · intro z; cases z
theorem CRest.exc {own : List (Str × Nat)} {t : T} {c : Option (Sl → M → R D)} {f : Sl → M → R D} {σd : Sl} {s : Src} : ∀ (n : Nat) {i : Nat} {acc : List D} {m m' : M} {r : R (List D)} {x : XD}, CRest s (turnC own t c f σd) n i acc m r → r ≠ .exc x m' := by
  intro n
  induction n using Nat.strongRecOn with
  | _ n ih =>
    intro i acc m m' r x h e
    rcases h.step (by rw [e]; exact fun z => nomatch z) with ⟨_, e1⟩ | ⟨d, k, _, e1, n', hn, ck⟩
    · rw [e] at e1; cases e1
    · rw [e] at e1
      cases et : turnC own t c f σd d m with
      | stuck => rw [et] at e1; cases e1
      | exc y m1 => exact turnC_exc et
      | ok o m1 =>
        rw [et] at e1
        exact ih n' hn (ck o m1) e1.symm
theorem wipe_none {σ : L2.St} {i : Nat} : ∀ {vs : List Nat}, i ∈ vs → (L2.wipe σ vs).set i none = L2.wipe σ vs
  | [], h => nomatch h
  | v :: vs, h => by
    show ((L2.wipe σ vs).set v none).set i none = (L2.wipe σ vs).set v none
    by_cases hv : i = v
    · subst hv; rw [List.set_set]
    · have hm : i ∈ vs := by
        rcases List.mem_cons.mp h with q | q
        · exact absurd q hv
        · exact q
      rw [List.set_comm _ _ (Ne.symm hv), wipe_none hm]
theorem wipe_wipe {ws : List Nat} : ∀ (vs : List Nat) (σ : L2.St), (∀ i ∈ vs, i ∈ ws) → L2.wipe (L2.wipe σ ws) vs = L2.wipe σ ws
  | [], _, _ => rfl
  | v :: vs, σ, h => by
    show (L2.wipe (L2.wipe σ ws) vs).set v none = _
    rw [wipe_wipe vs σ fun i hi => h i (List.mem_cons_of_mem _ hi), wipe_none (h v List.mem_cons_self)]

section
variable {X : Cx} {Ω : Wd} {W : WX} {pos p : Pos}
/-- a comprehension's parts in its block: target, test, element; nothing is raised there -/
structure CompP (X : Cx) (Ω : Wd) (own : List (Str × Nat)) (tg : Expr) (ifs : List Expr) (elt : Expr) (scope : Scope) (t : T) (c : Option (Sl → M → R D)) (f : Sl → M → R D) : Prop where
  tg : ∀ (s : Shared) (H : Hp) (C : Addr) (cl : List (Str × Addr)) (fp : List Addr), PG (X.blk s H scope (compEnvC scope cl C X.env) fp) tg (tT Ω t)
  cnd : match c with
    | none => ifs = []
    | some fc => ∃ e, ifs = [e] ∧ ∀ (s : Shared) (H : Hp) (C : Addr) (cl : List (Str × Addr)) (fp : List Addr), PT (X.blk s H scope (compEnvC scope cl C X.env) fp) e (tB' Ω (fun _ _ _ _ => False) (tru fc))
  el : ∀ (s : Shared) (H : Hp) (C : Addr) (cl : List (Str × Addr)) (fp : List Addr), PE (X.blk s H scope (compEnvC scope cl C X.env) fp) elt (tE Ω (fun _ _ _ _ => False) f)
  sub : ∀ i ∈ t.ixs, i ∈ own.map (·.2)
/-- the test's reading -/
def ttC (Ω : Wd) (c : Option (Sl → M → R D)) : TT := match c with
  | none => tYes
  | some fc => tB' Ω (fun _ _ _ _ => False) (tru fc)
theorem CompP.pts {own : List (Str × Nat)} {tg : Expr} {ifs : List Expr} {elt : Expr} {scope : Scope} {t : T} {c : Option (Sl → M → R D)} {f : Sl → M → R D} (h : CompP X Ω own tg ifs elt scope t c f)
    (s : Shared) (H : Hp) (C : Addr) (cl : List (Str × Addr)) (fp : List Addr) : PTs (X.blk s H scope (compEnvC scope cl C X.env) fp) ifs (ttC Ω c) := by
  have hc := h.cnd
  cases c with
  | none => subst hc; exact pts_nil
  | some fc =>
    obtain ⟨e, rfl, hp⟩ := hc
    exact pts_one (hp s H C cl fp)

/-- the whole of a comprehension: at its end the new list at D, at no place, holds what came -/
theorem comp_lc {own : List (Str × Nat)} {t : T} {c : Option (Sl → M → R D)} {f : Sl → M → R D} {fi : Sl → M → R Src} {Wn : Nat} {σ : L2.St} {H : Hp} {Q : VK}
    (hsub : ∀ i ∈ t.ixs, i ∈ own.map (·.2)) {A : List Addr} {m : M} {σd : Sl} (rl : Rl Ω A m H) (rs : RS Ω A H σd σ)
    (g : Gd Ω W σ A H (compF Wn own t fi c f σd m) fun _ _ _ _ => True) (hz : ∀ ds m', compF Wn own t fi c f σd m = .ok ds m' → ds.length ≤ sizeLine)
    (hq : ∀ ds m' A' H' D xs, compF Wn own t fi c f σd m = .ok ds m' → Le A H A' H' → (∃ H1 A1, Le A H A1 H1 ∧ H1 D = none ∧ Le A1 H1 A' H') → Rl Ω A' m' H' → H' D = some (.lst xs) → D ∉ A' → RVs Ω A' H' xs ds → Q (.ref D) H') :
    tLc (tI Ω W fi) (tT Ω t) (ttC Ω c) (tE Ω (fun _ _ _ _ => False) f) (own.map (·.2)) σ H Q := by
  refine ⟨A, m, σd, rl, rs, ?_⟩
  unfold compF at g hq hz
  cases ef : fi σd m with
  | stuck => rw [ef] at g; exact g.elim
  | exc x m' => rw [ef] at g; exact g
  | ok src m1 =>
    rw [ef] at g hq hz
    change Gd Ω W σ A H (compS Wn src (turnC own t c f σd) m1) _ at g
    intro A1 H1 le1 rl1 J hJ D hD
    have rs1 := rs.mono le1
    have hDA : D ∉ A1 := rl1.notin hD
    obtain ⟨n0, c0⟩ := CRest.start (W := Wn) (s := src) (tn := turnC own t c f σd) (m := m1)
    -- what holds between two turns
    refine ⟨fun i n H' => ∃ acc m' r A' xs, CRest src (turnC own t c f σd) n i acc m' r ∧ r = compS Wn src (turnC own t c f σd) m1 ∧ Le A1 H1 A' H' ∧ Rl Ω A' m' H' ∧ RS Ω A' H' σd σ ∧ H' D = some (.lst xs) ∧ D ∉ A' ∧ RVs Ω A' H' xs acc,
      ⟨n0, [], m1, _, A1, [], c0, rfl, Le.made hD, rl1.made hD, rs1.mono (Le.made hD), upd_same, hDA, .nil⟩, ?_⟩
    rintro i n H' ⟨acc, m', r, A', xs, cr, er, le, rl', rs', hD', nD, rv⟩
    have ns : r ≠ .stuck := by rw [er]; exact not_stuck g
    rcases cr.step ns with ⟨ei, e⟩ | ⟨d, k, ei, e, n', hn, ck⟩
    · -- the end
      refine .inl ⟨hJ.stop A' m' H' i le rl' ei, ?_⟩
      exact hq acc m' A' H' D xs (by show compS Wn src _ m1 = _; rw [← er, e]) (le1.trans le) ⟨H1, A1, le1, hD, le⟩ rl' hD' nD rv
    · obtain ⟨hgo, hy⟩ := hJ.go A' m' H' i d le rl' ei
      refine .inr ⟨hgo, fun H2 => ∃ o m2 A2 xs2, turnC own t c f σd d m' = .ok o m2 ∧ Le A1 H1 A2 H2 ∧ Rl Ω A2 m2 H2 ∧ RS Ω A2 H2 σd σ ∧ H2 D = some (.lst xs2) ∧ D ∉ A2 ∧ RVs Ω A2 H2 xs2 (o.elim acc fun y => acc ++ [y]), ?_, ?_⟩
      · rintro H2 ⟨o, m2, A2, xs2, et, l2, r2, s2, d2, n2, v2⟩
        refine ⟨n', hn, _, m2, k o m2, A2, xs2, ck o m2, ?_, l2, r2, s2, d2, n2, v2⟩
        rw [← er, e, et]; rfl
      · intro x H2 yd
        obtain ⟨le2, rl2, rvx⟩ := hy x H2 yd
        have nt : turnC own t c f σd d m' ≠ .stuck := bind_not_stuck (by rw [← e]; exact ns)
        have hD2 : H2 D = some (.lst xs) := le2.keep _ _ hD' nD fun _ z => nomatch z
        have rs2 := (rs'.mono le2).wipe (own.map (·.2))
        unfold turnC at nt
        cases ep : T.put t d (wipeD σd (own.map (·.2))) with
        | none => rw [ep] at nt; exact absurd rfl nt
        | some σ1 =>
          rw [ep] at nt
          refine ⟨A', m', d, _, σ1, rl2, rs2, rvx, ep, fun σ2 rsσ hw => ⟨?_, ?_⟩⟩
          · have e1 := hw (own.map (·.2)) hsub
            rw [e1]
            exact wipe_wipe _ σ fun _ h => h
          · -- how many there are
            have room : ∀ {o : Option Ev.D} {m2 : M} {y : Ev.D}, turnC own t c f σd d m' = .ok o m2 → o = some y → xs.length < sizeLine := fun {o m2 y} et eo => by
              rw [et] at e
              change r = k o m2 at e
              cases hr : r with
              | stuck => exact absurd hr ns
              | exc x m3 => exact absurd hr (CRest.exc n cr)
              | ok ds m3 =>
                have hb : ds.length ≤ sizeLine := hz ds m3 (by show compS Wn src _ m1 = _; rw [← er, hr])
                have := CRest.len n' (ck o m2) (e.symm.trans hr)
                rw [eo] at this
                simp at this
                rw [rv.length]
                omega
            -- the element
            have elem : ∀ {A3 : List Addr} {H3 : Hp} {m3 : M} {y : Ev.D} {my : M}, f σ1 m3 = .ok y my → turnC own t c f σd d m' = .ok (some y) my → Le A' H2 A3 H3 → Rl Ω A3 m3 H3 →
                tE Ω (fun _ _ _ _ => False) f σ2 H3 fun v H4 => ∃ acc', H4 D = some (.lst acc') ∧ acc'.length < sizeLine ∧ ∃ o m2 A2 xs2, turnC own t c f σd d m' = .ok o m2 ∧ Le A1 H1 A2 (upd H4 D (.lst (acc' ++ [v]))) ∧ Rl Ω A2 m2 (upd H4 D (.lst (acc' ++ [v]))) ∧ RS Ω A2 (upd H4 D (.lst (acc' ++ [v]))) σd σ ∧
                  (upd H4 D (.lst (acc' ++ [v]))) D = some (.lst xs2) ∧ D ∉ A2 ∧ RVs Ω A2 (upd H4 D (.lst (acc' ++ [v]))) xs2 (o.elim acc fun y => acc ++ [y]) := fun {A3 H3 m3 y my} ef et le3 rl3 => by
              refine ⟨A3, m3, σ1, rl3, rsσ.mono le3, ?_⟩
              rw [ef]
              intro A4 H4 le4 rl4 v rv4
              have l34 := le3.trans le4
              have hD4 : H4 D = some (.lst xs) := l34.keep _ _ hD2 (le2.notin hD' nD) fun _ z => nomatch z
              have nD4 : D ∉ A4 := l34.notin hD2 (le2.notin hD' nD)
              refine ⟨xs, hD4, room et rfl, some y, my, A4, xs ++ [v], et, ((le.trans le2).trans l34).except hD, rl4.except hD4 nD4, (((rs'.mono le2).mono l34)).except hD4, upd_same, nD4, ?_⟩
              exact (((rv.mono le2).mono l34).append (.cons rv4 .nil)).except hD4
            cases c with
            | none =>
              dsimp only [ttC, tYes]
              rw [if_pos rfl]
              change (elC f σ1 m').nox ≠ .stuck at nt
              cases ef : f σ1 m' with
              | stuck => exact absurd (by unfold elC; rw [ef]; rfl) nt
              | exc x m3 => exact absurd (by unfold elC; rw [ef]; rfl) nt
              | ok y my =>
                refine elem ef ?_ (Le.refl _ _) rl2
                unfold turnC
                rw [ep]
                show (elC f σ1 m').nox = _
                unfold elC
                rw [ef]; rfl
            | some fc =>
              change ((tru fc σ1 m').bind fun b m => if b then elC f σ1 m else R.ok none m).nox ≠ .stuck at nt
              refine ⟨A', m', σ1, rl2, rsσ, ?_⟩
              cases ec : tru fc σ1 m' with
              | stuck => exact absurd (by rw [ec]; rfl) nt
              | exc x m3 => exact absurd (by rw [ec]; rfl) nt
              | ok b mb =>
                rw [ec] at nt
                intro A3 H3 le3 rl3
                have et : turnC own t (some fc) f σd d m' = (if b then elC f σ1 mb else R.ok none mb).nox := by
                  unfold turnC
                  rw [ep]
                  show ((tru fc σ1 m').bind _).nox = _
                  rw [ec]; rfl
                cases b with
                | false =>
                  dsimp only
                  rw [if_neg (by decide)]
                  refine ⟨none, mb, A3, xs, et, (le.trans le2).trans le3, rl3, (rs'.mono le2).mono le3, le3.keep _ _ hD2 (le2.notin hD' nD) (fun _ z => nomatch z), le3.notin hD2 (le2.notin hD' nD), (rv.mono le2).mono le3⟩
                | true =>
                  dsimp only
                  rw [if_pos rfl]
                  change (elC f σ1 mb).nox ≠ .stuck at nt
                  cases ef : f σ1 mb with
                  | stuck => exact absurd (by unfold elC; rw [ef]; rfl) nt
                  | exc x m3 => exact absurd (by unfold elC; rw [ef]; rfl) nt
                  | ok y my =>
                    refine elem ef ?_ le3 rl3
                    rw [et, if_pos rfl]
                    unfold elC
                    rw [ef]; rfl

theorem RV.more {Dn : Addr} {l : List V} {A : List Addr} {H : Hp} (hD : H Dn = some (.lst l)) : ∀ {v : V} {d : Ev.D}, RV Ω A H v d → RV Ω (A ++ [Dn]) H v d := by
  intro v d h
  have key : ∀ {a : Addr} {xs : List V}, Rd H a (.tup xs) → a ∉ A → a ∉ A ++ [Dn] := fun {a xs} h n q => by
    rcases List.mem_append.mp q with q | q
    · exact n q
    · rw [List.mem_singleton.mp q] at h
      rcases h with h | ⟨u, h⟩ <;> (rw [hD] at h; cases h)
  exact RV.rec (motive_1 := fun v d _ => RV Ω (A ++ [Dn]) H v d) (motive_2 := fun vs ds _ => RVs Ω (A ++ [Dn]) H vs ds)
    .non .bl .int .str .ty (fun h n _ q => .tup h (key h n) q) (fun h _ q => .tupK h q) (fun {a k} e => .loc (by
      have hl : k < A.length := (List.getElem?_eq_some_iff.mp e).1
      rw [List.getElem?_append_left hl]; exact e)) .fn .cls .nil (fun _ _ r q => .cons r q) h
theorem RVs.more {Dn : Addr} {l : List V} {A : List Addr} {H : Hp} (hD : H Dn = some (.lst l)) : ∀ {vs : List V} {ds : List Ev.D}, RVs Ω A H vs ds → RVs Ω (A ++ [Dn]) H vs ds
  | _, _, .nil => .nil
  | _, _, .cons r q => .cons (RV.more hD r) (RVs.more hD q)
theorem Rl.more {Dn : Addr} {l : List V} {A : List Addr} {H : Hp} {m : M} {ds : List Ev.D} (rl : Rl Ω A m H) (hD : H Dn = some (.lst l)) (nD : Dn ∉ A) (rv : RVs Ω A H l ds) : Rl Ω (A ++ [Dn]) (m ++ [.lst ds]) H := by
  refine ⟨by simp [rl.len], ?_, fun k u a e1 e2 => ?_⟩
  · rw [List.nodup_append]
    exact ⟨rl.nd, by simp, fun a ha b hb => by simp at hb; subst hb; exact fun z => nD (z ▸ ha)⟩
  · by_cases hl : k < m.length
    · rw [List.getElem?_append_left hl] at e1
      rw [List.getElem?_append_left (by rw [rl.len]; exact hl)] at e2
      have q := rl.obj k u a e1 e2
      cases u with
      | lst ds => obtain ⟨xs, h1, h2⟩ := q; exact ⟨xs, h1, h2.more hD⟩
      | frz ds => obtain ⟨ob, xs, h1, h2⟩ := q; exact ⟨ob, xs, h1, h2.more hD⟩
      | ins c fs => obtain ⟨dx, vs, h1, h2, h3⟩ := q; exact ⟨dx, vs, h1, h2, h3.more hD⟩
      | dct _ => exact q.elim
    · have hl' : m.length ≤ k := by omega
      rw [List.getElem?_append_right hl'] at e1
      rw [List.getElem?_append_right (by rw [rl.len]; exact hl'), rl.len] at e2
      have h0 : k - m.length = 0 := by
        have := (List.getElem?_eq_some_iff.mp e1).1
        simp at this; omega
      rw [h0] at e1 e2
      simp at e1 e2
      subst e1 e2
      exact ⟨l, hD, rv.more hD⟩
theorem comp_good {own : List (Str × Nat)} {t : T} {c : Option (Sl → M → R D)} {f : Sl → M → R D} {fi : Sl → M → R Src} {Wn : Nat} {σ : L2.St} {H : Hp} {A : List Addr} {m : M} {σd : Sl} {β : Type} {K : List D → M → R β} {P : β → M → List Addr → Hp → Prop}
    (g : Gd Ω W σ A H ((compF Wn own t fi c f σd m).bind K) P) : Gd Ω W σ A H (compF Wn own t fi c f σd m) fun _ _ _ _ => True := g.bind.imp fun _ _ _ _ _ _ _ => trivial
/-- [..] as a value -/
theorem lc_imp {own : List (Str × Nat)} {t : T} {c : Option (Sl → M → R D)} {f : Sl → M → R D} {fi : Sl → M → R Src} {Wn : Nat} (hsub : ∀ i ∈ t.ixs, i ∈ own.map (·.2)) {σ : L2.St} {H : Hp} {Q : VK}
    (h : tE Ω W (fun σ m => (compF Wn own t fi c f σ m).bind lstK) σ H Q) : tLc (tI Ω W fi) (tT Ω t) (ttC Ω c) (tE Ω (fun _ _ _ _ => False) f) (own.map (·.2)) σ H Q := by
  obtain ⟨A, m, σd, rl, rs, g⟩ := h
  have g : Gd Ω W σ A H ((compF Wn own t fi c f σd m).bind lstK) (pV Ω Q) := g
  have sz : ∀ ds m', compF Wn own t fi c f σd m = .ok ds m' → fits ds.length = true := fun ds m' e => by
    rw [e] at g
    change Gd Ω W σ A H (lstK ds m') _ at g
    unfold lstK at g
    split at g
    · assumption
    · exact g.elim
  refine comp_lc hsub rl rs (comp_good g) (fun ds m' e => fits_le (sz ds m' e)) fun ds m' A' H' Dn xs e le hex rl' hD nD rv => ?_
  rw [e] at g
  change Gd Ω W σ A H (lstK ds m') _ at g
  unfold lstK at g
  rw [if_pos (sz ds m' e)] at g
  obtain ⟨H1, A1, l1, h1, l2⟩ := hex
  have nl : Le A1 H1 (A' ++ [Dn]) H' := by
    obtain ⟨B, eB⟩ := l2.pre
    refine ⟨⟨B ++ [Dn], by rw [eB, List.append_assoc]⟩, l2.keep, fun a ha => ?_, l2.there⟩
    rcases List.mem_append.mp ha with q | q
    · exact l2.new a q
    · rw [List.mem_singleton.mp q]; exact .inr h1
  exact g (A' ++ [Dn]) H' (l1.trans nl) (rl'.more hD nD rv) _ (.loc (by rw [← rl'.len]; simp))
theorem s_comp {own : List (Str × Nat)} {tg iter elt : Expr} {ifs : List Expr} {scope : Scope} {t : T} {c : Option (Sl → M → R D)} {f : Sl → M → R D} {fi : Sl → M → R Src} {Wn : Nat} (hc : X.calm = true) (hN : X.N.Nodup) (hi : PI X tg iter (tI Ω W fi)) (ok : BlkOk X.N X.env.scope scope own)
    (cp : CompP X Ω own tg ifs elt scope t c f) (hs : ∀ x, foldedSetIterable iter X.env x = pure x) : PE X (.ListComp elt [⟨tg, iter, ifs, 0⟩] scope pos) (tE Ω W fun σ m => (compF Wn own t fi c f σ m).bind lstK) :=
  PE.imp (pe_lc hc hN hi ok cp.tg cp.pts cp.el hs) fun σ H Q h => lc_imp cp.sub h
/-- [..] as a sequence of items -/
theorem s_qcomp {own : List (Str × Nat)} {tg iter elt : Expr} {ifs : List Expr} {scope : Scope} {t : T} {c : Option (Sl → M → R D)} {f : Sl → M → R D} {fi : Sl → M → R Src} {Wn : Nat} (hc : X.calm = true) (hN : X.N.Nodup) (hi : PI X tg iter (tI Ω W fi)) (ok : BlkOk X.N X.env.scope scope own)
    (cp : CompP X Ω own tg ifs elt scope t c f) (hs : ∀ x, foldedSetIterable iter X.env x = pure x) : PE X (.ListComp elt [⟨tg, iter, ifs, 0⟩] scope pos) (tQ Ω W fun σ m => (compF Wn own t fi c f σ m).bind lstKq) := by
  refine PE.imp (pe_lc hc hN hi ok cp.tg cp.pts cp.el hs) fun σ H Q ⟨A, m, σd, rl, rs, g⟩ => ?_
  have g : Gd Ω W σ A H ((compF Wn own t fi c f σd m).bind lstKq) (fun s m' A' H' => ∀ v, SV Ω A' m' H' v s → Q v H') := g
  have sz : ∀ ds m', compF Wn own t fi c f σd m = .ok ds m' → fits ds.length = true := fun ds m' e => by
    rw [e] at g
    change Gd Ω W σ A H (lstKq ds m') _ at g
    unfold lstKq at g
    split at g
    · assumption
    · exact g.elim
  refine comp_lc cp.sub rl rs (comp_good g) (fun ds m' e => fits_le (sz ds m' e)) fun ds m' A' H' Dn xs e le hex rl' hD nD rv => ?_
  rw [e] at g
  change Gd Ω W σ A H (lstKq ds m') _ at g
  unfold lstKq at g
  rw [if_pos (sz ds m' e)] at g
  exact g A' H' le rl' _ ⟨Dn, xs, rfl, hD, nD, rv⟩
end
end Ev
set_option Elab.async false
set_option linter.all false
set_option maxRecDepth 100000
/-! EvJ: statements. -/
namespace Ev
open PySem PySem.Spec PyProof.Rows L2

/-- a statement's outcome is good for what is wanted -/
def GdF (Ω : Wd) (W : WX) (A' : List Addr) (H' : Hp) (D : Ends) : Fl → Prop
  | .nx σd => ∀ σ', RS Ω A' H' σd σ' → D.nx σ' H'
  | .ret d => ∀ v, RV Ω A' H' v d → D.rt v H'
  | .bk σd => ∀ σ', RS Ω A' H' σd σ' → D.bk σ' H'
  | .ct σd => ∀ σ', RS Ω A' H' σd σ' → D.ct σ' H'
  | .rs x σd => ∀ σ' cls dx, RS Ω A' H' σd σ' → RX Ω A' H' x cls dx → W cls dx σ' H'
def GdS (Ω : Wd) (W : WX) (A : List Addr) (H : Hp) (r : R Fl) (D : Ends) : Prop := match r with
  | .ok f m' => ∀ A' H', Le A H A' H' → Rl Ω A' m' H' → GdF Ω W A' H' D f
  | _ => False
def tS (Ω : Wd) (W : WX) (f : Sl → M → R Fl) : TS := fun D σ H => ∃ A m σd, Rl Ω A m H ∧ RS Ω A H σd σ ∧ GdS Ω W A H (f σd m) D
theorem PS.imp {X : Cx} {st : Stmt} {t t' : TS} (h : PS X st t) (i : ∀ D σ H, t' D σ H → t D σ H) : PS X st t' := ⟨fun p s σ H D I q => h.run p s σ H D I (i D σ H q)⟩
theorem PSs.imp {X : Cx} {st : List Stmt} {t t' : TS} (h : PSs X st t) (i : ∀ D σ H, t' D σ H → t D σ H) : PSs X st t' := ⟨fun p s σ H D I q => h.run p s σ H D I (i D σ H q)⟩
section
variable {X : Cx} {Ω : Wd} {W : WX} {pos p : Pos} {A A1 : List Addr} {m : M} {H H1 : Hp} {D : Ends}
theorem GdS.le {r : R Fl} (g : GdS Ω W A H r D) (le : Le A H A1 H1) : GdS Ω W A1 H1 r D := by
  cases r with
  | ok f m' => exact fun A' H' l rl => g A' H' (le.trans l) rl
  | exc x m' => exact g
  | stuck => exact g
theorem GdS.ok {f : Fl} (g : GdS Ω W A H (.ok f m) D) (rl : Rl Ω A m H) : GdF Ω W A H D f := g A H (Le.refl A H) rl
/-- from a value on -/
theorem GdS.go {α : Type} {r : R α} {k : α → M → R Fl} {σd : Sl} {σ : L2.St} (g : GdS Ω W A H (r.go σd k) D) (rs : RS Ω A H σd σ) : Gd Ω W σ A H r fun a m1 A1 H1 => GdS Ω W A1 H1 (k a m1) D := by
  cases r with
  | ok a m => exact fun A' H' l rl => GdS.le (r := k a m) g l
  | exc x m => exact fun A' H' cls dx l rl rx => g A' H' l rl σ cls dx (rs.mono l) rx
  | stuck => exact g
theorem tE.go {f : Sl → M → R Ev.D} {k : Sl → Ev.D → M → R Fl} {σ : L2.St} {σd : Sl} {Dn : Ends} (rl : Rl Ω A m H) (rs : RS Ω A H σd σ) (g : GdS Ω W A H ((f σd m).go σd (k σd)) Dn) {Q : VK}
    (h : ∀ v H1 A1 m1 d, Le A H A1 H1 → Rl Ω A1 m1 H1 → RS Ω A1 H1 σd σ → RV Ω A1 H1 v d → GdS Ω W A1 H1 (k σd d m1) Dn → Q v H1) : tE Ω W f σ H Q :=
  ⟨A, m, σd, rl, rs, (g.go rs).imp fun d m1 A1 H1 le rl1 g1 v rv => h v H1 A1 m1 d le rl1 (rs.mono le) rv g1⟩
theorem tA.go {f : Sl → M → R (List Ev.D)} {k : Sl → List Ev.D → M → R Fl} {σ : L2.St} {σd : Sl} {Dn : Ends} (rl : Rl Ω A m H) (rs : RS Ω A H σd σ) (g : GdS Ω W A H ((f σd m).go σd (k σd)) Dn) {Q : List V → Hp → Prop}
    (h : ∀ vs H1 A1 m1 ds, Le A H A1 H1 → Rl Ω A1 m1 H1 → RS Ω A1 H1 σd σ → RVs Ω A1 H1 vs ds → GdS Ω W A1 H1 (k σd ds m1) Dn → Q vs H1) : tA Ω W f σ H Q :=
  ⟨A, m, σd, rl, rs, (g.go rs).imp fun d m1 A1 H1 le rl1 g1 v rv => h v H1 A1 m1 d le rl1 (rs.mono le) rv g1⟩
theorem tB'.go {f : Sl → M → R Bool} {k : Sl → Bool → M → R Fl} {σ : L2.St} {σd : Sl} {Dn : Ends} (rl : Rl Ω A m H) (rs : RS Ω A H σd σ) (g : GdS Ω W A H ((f σd m).go σd (k σd)) Dn) {Q : Bool → Hp → Prop}
    (h : ∀ b H1 A1 m1, Le A H A1 H1 → Rl Ω A1 m1 H1 → RS Ω A1 H1 σd σ → GdS Ω W A1 H1 (k σd b m1) Dn → Q b H1) : tB' Ω W f σ H Q :=
  ⟨A, m, σd, rl, rs, (g.go rs).imp fun d m1 A1 H1 le rl1 g1 => h d H1 A1 m1 le rl1 (rs.mono le) g1⟩

/-! ### blocks -/
theorem s_snil : PSs X [] (tS Ω W fun σ m => .ok (.nx σ) m) := PSs.imp pss_nil fun D σ H ⟨A, m, σd, rl, rs, g⟩ => g.ok rl σ rs
/-- behind a statement the rest -/
theorem GdS.seq {r : R Fl} {k : Sl → M → R Fl} (g : GdS Ω W A H (r.bind (seqK k)) D) : GdS Ω W A H r { D with nx := tS Ω W k D } := by
  cases r with
  | ok f m' =>
    intro A' H' le rl
    cases f with
    | nx σd => exact fun σ' rs => ⟨A', m', σd, rl, rs, GdS.le (r := k σd m') g le⟩
    | ret d => exact g A' H' le rl
    | bk σd => exact g A' H' le rl
    | ct σd => exact g A' H' le rl
    | rs x σd => exact g A' H' le rl
  | exc x m' => exact g
  | stuck => exact g
theorem s_sseq {st : Stmt} {rest : List Stmt} {f k : Sl → M → R Fl} (h1 : PS X st (tS Ω W f)) (h2 : PSs X rest (tS Ω W k)) : PSs X (st :: rest) (tS Ω W fun σ m => (f σ m).bind (seqK k)) :=
  PSs.imp (pss_cons h1 h2) fun D σ H ⟨A, m, σd, rl, rs, g⟩ => ⟨A, m, σd, rl, rs, g.seq⟩

/-! ### small statements -/
theorem s_pass : PS X (.Pass pos) (tS Ω W fun σ m => .ok (.nx σ) m) := PS.imp ps_pass fun D σ H ⟨A, m, σd, rl, rs, g⟩ => g.ok rl σ rs
theorem s_brk : PS X (.Break pos) (tS Ω W fun σ m => .ok (.bk σ) m) := PS.imp ps_break fun D σ H ⟨A, m, σd, rl, rs, g⟩ => g.ok rl σ rs
theorem s_cont : PS X (.Continue pos) (tS Ω W fun σ m => .ok (.ct σ) m) := PS.imp ps_continue fun D σ H ⟨A, m, σd, rl, rs, g⟩ => g.ok rl σ rs
theorem s_retN : PS X (.Return none pos) (tS Ω W fun _ m => .ok (.ret .non) m) := PS.imp ps_retN fun D σ H ⟨A, m, σd, rl, rs, g⟩ => g.ok rl _ .non
theorem s_ret {e : Expr} {f : Sl → M → R Ev.D} (h : PE X e (tE Ω W f)) : PS X (.Return (some e) pos) (tS Ω W fun σ m => (f σ m).go σ fun d m => .ok (.ret d) m) := by
  refine PS.imp (ps_ret h) fun D σ H ⟨A, m, σd, rl, rs, g⟩ => ?_
  refine tE.go (k := fun _ d m => R.ok (Fl.ret d) m) rl rs g fun v H1 A1 m1 d le rl1 rs1 rv g1 => ?_
  exact g1.ok rl1 v rv
theorem s_drop {e : Expr} {f : Sl → M → R Ev.D} (h : PE X e (tE Ω W f)) (hs : swapsWith e none pos.line X.env = pure false) : PS X (.Expr e pos) (tS Ω W fun σ m => (f σ m).go σ fun _ m => .ok (.nx σ) m) := by
  refine PS.imp (ps_expr h hs) fun D σ H ⟨A, m, σd, rl, rs, g⟩ => ?_
  refine tE.go (k := fun σ _ m => R.ok (Fl.nx σ) m) rl rs g fun v H1 A1 m1 d le rl1 rs1 rv g1 => ?_
  exact g1.ok rl1 σ rs1
theorem s_set {i : Nat} {x : Str} {e : Expr} {pos' : Pos} {f : Sl → M → R Ev.D} (hN : X.N.Nodup) (hi : X.N[i]? = some x) (hx : Loc X.env.scope x) (he : PE X e (tE Ω W f)) (hs : swapsWith e (some (.Name x pos')) pos.line X.env = pure false)
    (hf : X.fn x = true ∨ X.env.scope.names.lookup x = some .local) : PS X (.Assign [.Name x pos'] e pos) (tS Ω W fun σ m => (f σ m).go σ (setK i σ)) := by
  refine PS.imp (ps_set hN hi hx he hs hf) fun D σ H ⟨A, m, σd, rl, rs, g⟩ => ?_
  refine tE.go (k := setK i) rl rs g fun v H1 A1 m1 d le rl1 rs1 rv g1 => ?_
  unfold setK at g1
  split at g1
  · exact g1.ok rl1 _ (rs1.set rv)
  · exact g1.elim
theorem s_setLc {i : Nat} {y : Str} {py spos : Pos} {own : List (Str × Nat)} {tg iter elt : Expr} {ifs : List Expr} {scope : Scope} {t : T} {c : Option (Sl → M → R Ev.D)} {f : Sl → M → R Ev.D} {fi : Sl → M → R Src} {Wn : Nat} (hc : X.calm = true) (hN : X.N.Nodup)
    (hy : X.N[i]? = some y) (hyl : X.env.scope.names.lookup y = some .local) (hsw : swapsWith (.ListComp elt [⟨tg, iter, ifs, 0⟩] scope pos) (some (.Name y py)) spos.line X.env = pure true) (hi : PI X tg iter (tI Ω W fi)) (ok : BlkOk X.N X.env.scope scope own)
    (cp : CompP X Ω own tg ifs elt scope t c f) (hs : ∀ x, foldedSetIterable iter X.env x = pure x) :
    PS X (.Assign [.Name y py] (.ListComp elt [⟨tg, iter, ifs, 0⟩] scope pos) spos) (tS Ω W fun σ m => ((compF Wn own t fi c f σ m).bind lstK).go σ (setK i σ)) := by
  refine PS.imp (ps_setLc hc hN hy hyl hsw hi ok cp.tg cp.pts cp.el hs) fun D σ H ⟨A, m, σd, rl, rs, g⟩ => ?_
  refine lc_imp (Wn := Wn) cp.sub (tE.go (f := fun σ m => (compF Wn own t fi c f σ m).bind lstK) (k := setK i) rl rs g fun v H1 A1 m1 d le rl1 rs1 rv g1 => ?_)
  unfold setK at g1
  split at g1
  · exact g1.ok rl1 _ (rs1.set rv)
  · exact g1.elim
theorem s_asg {tg e : Expr} {t : T} {f : Sl → M → R Ev.D} (he : PE X e (tE Ω W f)) (hg : PG X tg (tT Ω t)) (hs : swapsWithSole [tg] e pos.line X.env = pure false) (hw : swappedStores [tg] e X.env = pure none)
    (h1 : (assignEach [tg] X.env).map (·.2) = [assign tg X.env]) : PS X (.Assign [tg] e pos) (tS Ω W fun σ m => (f σ m).go σ (asgK t σ)) := by
  refine PS.imp (ps_asg he hg hs hw h1) fun D σ H ⟨A, m, σd, rl, rs, g⟩ => ?_
  refine tE.go (k := asgK t) rl rs g fun v H1 A1 m1 d le rl1 rs1 rv g1 => ?_
  unfold asgK at g1
  cases e1 : T.put t d σd with
  | none => rw [e1] at g1; exact g1.elim
  | some σd' =>
    rw [e1] at g1
    exact ⟨A1, m1, d, σd, σd', rl1, rs1, rv, e1, fun σ' rs' _ => g1.ok rl1 σ' rs'⟩
theorem puts2 {i j : Nat} {ds : List Ev.D} {σd σd' : Sl} (h : puts [i, j] ds σd = some σd') : ∃ d e, ds = [d, e] ∧ σd' = (σd.set i (some d)).set j (some e) := by
  match ds, h with
  | [d, e], h =>
    simp only [puts] at h
    split at h
    · split at h
      · cases h; exact ⟨d, e, rfl, rfl⟩
      · cases h
    · cases h
  | [], h => cases h
  | [d], h =>
    simp only [puts] at h
    split at h
    · cases h
    · cases h
  | d :: e :: _ :: _, h =>
    simp only [puts] at h
    split at h
    · split at h
      · cases h
      · cases h
    · cases h
theorem s_par2 {i j : Nat} {x y : Str} {a b : Expr} {fs : Sl → M → R (List Ev.D)} {px py pt : Pos} {kt k2 pt2} (hc : X.calm = true) (hN : X.N.Nodup) (hi : X.N[i]? = some x) (hj : X.N[j]? = some y) (hij : i ≠ j)
    (hx : X.env.scope.names.lookup x = some .local) (hy : X.env.scope.names.lookup y = some .local) (ha : PA X [a, b] (tA Ω W fs)) (hw : swappedStores [.Tuple [.Name x px, .Name y py] kt pt] (.Tuple [a, b] k2 pt2) X.env = pure (some [x, y]))
    (hs : swapsWithSole [.Tuple [.Name x px, .Name y py] kt pt] (.Tuple [a, b] k2 pt2) pos.line X.env = pure false) :
    PS X (.Assign [.Tuple [.Name x px, .Name y py] kt pt] (.Tuple [a, b] k2 pt2) pos) (tS Ω W fun σ m => (fs σ m).go σ (parK [i, j] σ)) := by
  refine PS.imp (ps_par hc hN hi hj hij hx hy ha hw hs) fun D σ H ⟨A, m, σd, rl, rs, g⟩ => ?_
  refine tA.go (k := parK [i, j]) rl rs g fun vs H1 A1 m1 ds le rl1 rs1 rvs g1 => ?_
  unfold parK at g1
  cases e1 : puts [i, j] ds σd with
  | none => rw [e1] at g1; exact g1.elim
  | some σd' =>
    rw [e1] at g1
    obtain ⟨d, e, rfl, rfl⟩ := puts2 e1
    obtain ⟨v, w, rfl, r1, r2⟩ := rvs.inv2
    exact ⟨v, w, rfl, g1.ok rl1 _ ((rs1.set r1).set r2)⟩
theorem puts_step {i : Nat} {is : List Nat} {ds : List Ev.D} {σd σd' : Sl} (h : puts (i :: is) ds σd = some σd') : ∃ d es, ds = d :: es ∧ puts is es (σd.set i (some d)) = some σd' := by
  cases ds with
  | nil => cases h
  | cons d es =>
    simp only [puts] at h
    split at h
    · exact ⟨d, es, rfl, h⟩
    · cases h
theorem puts_done {ds : List Ev.D} {σd σd' : Sl} (h : puts [] ds σd = some σd') : ds = [] ∧ σd' = σd := by
  cases ds with
  | nil => cases h; exact ⟨rfl, rfl⟩
  | cons d es => cases h
theorem s_par3 {i j l : Nat} {x y z : Str} {a b c : Expr} {fs : Sl → M → R (List Ev.D)} {px py pz pt : Pos} {kt k2 pt2} (hc : X.calm = true) (hN : X.N.Nodup) (hi : X.N[i]? = some x) (hj : X.N[j]? = some y) (hl : X.N[l]? = some z) (hij : i ≠ j) (hil : i ≠ l) (hjl : j ≠ l)
    (hx : X.env.scope.names.lookup x = some .local) (hy : X.env.scope.names.lookup y = some .local) (hz : X.env.scope.names.lookup z = some .local) (ha : PA X [a, b, c] (tA Ω W fs))
    (hw : swappedStores [.Tuple [.Name x px, .Name y py, .Name z pz] kt pt] (.Tuple [a, b, c] k2 pt2) X.env = pure (some [x, y, z])) (hs : swapsWithSole [.Tuple [.Name x px, .Name y py, .Name z pz] kt pt] (.Tuple [a, b, c] k2 pt2) pos.line X.env = pure false) :
    PS X (.Assign [.Tuple [.Name x px, .Name y py, .Name z pz] kt pt] (.Tuple [a, b, c] k2 pt2) pos) (tS Ω W fun σ m => (fs σ m).go σ (parK [i, j, l] σ)) := by
  refine PS.imp (ps_par3 hc hN hi hj hl hij hil hjl hx hy hz ha hw hs) fun D σ H ⟨A, m, σd, rl, rs, g⟩ => ?_
  refine tA.go (k := parK [i, j, l]) rl rs g fun vs H1 A1 m1 ds le rl1 rs1 rvs g1 => ?_
  unfold parK at g1
  cases e1 : puts [i, j, l] ds σd with
  | none => rw [e1] at g1; exact g1.elim
  | some σd' =>
    rw [e1] at g1
    obtain ⟨d1, ds1, rfl, q1⟩ := puts_step e1
    obtain ⟨d2, ds2, rfl, q2⟩ := puts_step q1
    obtain ⟨d3, ds3, rfl, q3⟩ := puts_step q2
    obtain ⟨rfl, rfl⟩ := puts_done q3
    cases rvs with
    | cons r1 q =>
      obtain ⟨v2, v3, rfl, r2, r3⟩ := q.inv2
      exact ⟨_, v2, v3, rfl, g1.ok rl1 _ (((rs1.set r1).set r2).set r3)⟩
theorem s_if {c : Expr} {a b : List Stmt} {fc : Sl → M → R Ev.D} {fa fb : Sl → M → R Fl} (hc : PT X c (tB' Ω W (tru fc))) (ha : PSs X a (tS Ω W fa)) (hb : PSs X b (tS Ω W fb)) : PS X (.If c a b pos) (tS Ω W (ifF fc fa fb)) := by
  refine PS.imp (ps_if hc ha hb) fun D σ H ⟨A, m, σd, rl, rs, g⟩ => ?_
  refine tB'.go (k := fun σ t m => if t then fa σ m else fb σ m) rl rs g fun t H1 A1 m1 le rl1 rs1 g1 => ?_
  cases t with
  | true => rw [if_pos rfl] at g1 ⊢; exact ⟨A1, m1, σd, rl1, rs1, g1⟩
  | false => rw [if_neg (by decide)] at g1 ⊢; exact ⟨A1, m1, σd, rl1, rs1, g1⟩

/-! ### loops -/
theorem GdS.loop {r : R Fl} {k : Sl → M → R Fl} (g : GdS Ω W A H (r.bind (loopK k)) D) : GdS Ω W A H r { D with nx := tS Ω W k D, ct := tS Ω W k D, bk := D.nx } := by
  cases r with
  | ok f m' =>
    intro A' H' le rl
    cases f with
    | nx σd => exact fun σ' rs => ⟨A', m', σd, rl, rs, GdS.le (r := k σd m') g le⟩
    | ct σd => exact fun σ' rs => ⟨A', m', σd, rl, rs, GdS.le (r := k σd m') g le⟩
    | ret d => exact g A' H' le rl
    | bk σd => exact g A' H' le rl
    | rs x σd => exact g A' H' le rl
  | exc x m' => exact g
  | stuck => exact g
theorem s_while {c : Expr} {body : List Stmt} {fc : Sl → M → R Ev.D} {fb : Sl → M → R Fl} {Wn : Nat} (hp : PassesOwn (model X.prog X.w) X.A X.env X.xe) (hc : PT X c (tB' Ω W (tru fc))) (hb : PSs X body (tS Ω W fb)) :
    PS X (.While c body [] pos) (tS Ω W (whileL (tru fc) fb Wn)) := by
  refine PS.imp (ps_while hp hc hb) fun D σ H h => ?_
  refine ⟨fun n σ H => tS Ω W (whileL (tru fc) fb n) D σ H, ⟨Wn, h⟩, fun n σ H ⟨A, m, σd, rl, rs, g⟩ => ?_⟩
  cases n with
  | zero => exact g.elim
  | succ n =>
    refine tB'.go (k := fun σ b m => if b then (fb σ m).bind (loopK (whileL (tru fc) fb n)) else .ok (.nx σ) m) rl rs g fun t H1 A1 m1 le rl1 rs1 g1 => ?_
    cases t with
    | true =>
      rw [if_pos rfl] at g1 ⊢
      exact ⟨tS Ω W (whileL (tru fc) fb n) D, fun σ' H' q => ⟨n, Nat.lt_succ_self n, q⟩, A1, m1, σd, rl1, rs1, g1.loop⟩
    | false => rw [if_neg (by decide)] at g1 ⊢; exact g1.ok rl1 σ rs1
/-- what is left of the turns of a for -/
inductive FRest (s : Src) (tn : Ev.D → Sl → M → R Fl) : Nat → Nat → (Sl → M → R Fl) → Prop
  | flat {ds : List Ev.D} {i : Nat} : s.flat = some ds → i ≤ ds.length → FRest s tn (ds.length - i) i (forL tn (ds.drop i))
  | dyn {n i : Nat} : FRest s tn n i (forN s tn n i)
theorem FRest.start {Wn : Nat} {s : Src} {tn : Ev.D → Sl → M → R Fl} {σ : Sl} {m : M} : ∃ n r, FRest s tn n 0 r ∧ r σ m = forS Wn s tn σ m := by
  unfold forS
  cases e : s.flat with
  | some ds => exact ⟨_, _, FRest.flat (tn := tn) (i := 0) e (Nat.zero_le _), by simp⟩
  | none => exact ⟨Wn, _, .dyn, rfl⟩
theorem FRest.step {s : Src} {tn : Ev.D → Sl → M → R Fl} {n i : Nat} {r : Sl → M → R Fl} {σ : Sl} {m : M} (h : FRest s tn n i r) (hr : r σ m ≠ .stuck) :
    (s.item m i = some none ∧ r σ m = .ok (.nx σ) m) ∨ ∃ d k n', s.item m i = some (some d) ∧ r σ m = (tn d σ m).bind (loopK k) ∧ n' < n ∧ FRest s tn n' (i + 1) k := by
  cases h with
  | flat e hi =>
    rename_i ds
    have it := flat_item m e i hi
    by_cases hlt : i < ds.length
    · rw [List.drop_eq_getElem_cons hlt]
      exact .inr ⟨ds[i], forL tn (ds.drop (i + 1)), ds.length - (i + 1), by rw [it, List.getElem?_eq_getElem hlt], rfl, by omega, .flat e hlt⟩
    · have hi' : i = ds.length := by omega
      subst hi'
      exact .inl ⟨by rw [it]; simp, by simp [forL]⟩
  | dyn =>
    cases n with
    | zero => exact absurd rfl hr
    | succ n =>
      simp only [forN] at hr ⊢
      split at hr
      · exact absurd rfl hr
      · rename_i e; exact .inl ⟨e, by simp [e]⟩
      · rename_i d e
        exact .inr ⟨d, forN s tn n (i + 1), n, e, by simp [e], Nat.lt_succ_self n, .dyn⟩
theorem GdS.ns {r : R Fl} (g : GdS Ω W A H r D) : r ≠ .stuck := fun e => by rw [e] at g; exact g
theorem s_for {tg iter : Expr} {body : List Stmt} {t : T} {fi : Sl → M → R Src} {fb : Sl → M → R Fl} {Wn : Nat} (hp : PassesOwn (model X.prog X.w) X.A X.env X.xe) (hc : X.calm = true) (hi : PI X tg iter (tI Ω W fi)) (hg : PG X tg (tT Ω t)) (hb : PSs X body (tS Ω W fb))
    (hs : ∀ x, foldedSetIterable iter X.env x = pure x) : PS X (.For tg iter body [] pos) (tS Ω W fun σ m => (fi σ m).go σ fun src m => forS Wn src (turnF t fb) σ m) := by
  refine PS.imp (ps_for hp hc hi hg hb hs) fun D σ H ⟨A, m, σd, rl, rs, g⟩ => ?_
  refine ⟨A, m, σd, rl, rs, (g.go rs).imp fun src m1 A1 H1 le1 rl1 g1 J hJ => ?_⟩
  obtain ⟨n0, r0, c0, e0⟩ := FRest.start (Wn := Wn) (s := src) (tn := turnF t fb) (σ := σd) (m := m1)
  rw [← e0] at g1
  refine ⟨fun i n σ' H' => ∃ A' m' σ1 r, FRest src (turnF t fb) n i r ∧ Le A1 H1 A' H' ∧ Rl Ω A' m' H' ∧ RS Ω A' H' σ1 σ' ∧ GdS Ω W A' H' (r σ1 m') D, ⟨n0, A1, m1, σd, r0, c0, Le.refl _ _, rl1, rs.mono le1, g1⟩, ?_⟩
  rintro i n σ' H' ⟨A', m', σ1, r, cr, le, rl', rs', gr⟩
  rcases cr.step gr.ns with ⟨ei, e⟩ | ⟨d, k, n', ei, e, hn, ck⟩
  · refine .inl ⟨hJ.stop A' m' H' i le rl' ei, ?_⟩
    rw [e] at gr
    exact gr.ok rl' σ' rs'
  · obtain ⟨hgo, hy⟩ := hJ.go A' m' H' i d le rl' ei
    refine .inr ⟨hgo, fun σ2 H2 => Le A1 H1 A1 H1 ∧ ∃ A2, Le A1 H1 A2 H2 ∧ ∃ m2 σ3, Rl Ω A2 m2 H2 ∧ RS Ω A2 H2 σ3 σ2 ∧ GdS Ω W A2 H2 (k σ3 m2) D, fun σ2 H2 ⟨_, A2, l2, m2, σ3, r2, s2, g2⟩ => ⟨n', hn, A2, m2, σ3, k, ck, l2, r2, s2, g2⟩, fun x H2 yd => ?_⟩
    obtain ⟨le2, rl2, rvx⟩ := hy x H2 yd
    rw [e] at gr
    unfold turnF at gr
    cases ep : T.put t d σ1 with
    | none => rw [ep] at gr; exact gr.elim
    | some σ2 =>
      rw [ep] at gr
      change GdS Ω W A' H' ((fb σ2 m').bind (loopK k)) D at gr
      refine ⟨A', m', d, σ1, σ2, rl2, rs'.mono le2, rvx, ep, fun σ3 rs3 _ => ⟨A', m', σ2, rl2, rs3, ?_⟩⟩
      have g2 := (GdS.le (r := (fb σ2 m').bind (loopK k)) gr le2)
      cases ef : fb σ2 m' with
      | stuck => rw [ef] at g2; exact g2.elim
      | exc x m3 => rw [ef] at g2; exact g2.elim
      | ok f m3 =>
        rw [ef] at g2
        intro A3 H3 le3 rl3
        have base := (le.trans le2).trans le3
        cases f with
        | nx σ4 => exact fun σ5 rs5 => ⟨Le.refl _ _, A3, base, m3, σ4, rl3, rs5, GdS.le (r := k σ4 m3) g2 le3⟩
        | ct σ4 => exact fun σ5 rs5 => ⟨Le.refl _ _, A3, base, m3, σ4, rl3, rs5, GdS.le (r := k σ4 m3) g2 le3⟩
        | ret d => exact g2 A3 H3 le3 rl3
        | bk σ4 => exact g2 A3 H3 le3 rl3
        | rs x σ4 => exact g2 A3 H3 le3 rl3
end
end Ev
set_option Elab.async false
set_option linter.all false
set_option maxRecDepth 100000
/-! EvK: stores into lists, calls, what a call leaves. -/
namespace Ev
open PySem PySem.Spec PyProof.Rows L2
section
variable {X : Cx} {Ω : Wd} {W : WX} {pos p : Pos} {A A' : List Addr} {m m' : M} {H H' : Hp} {Dn : Ends}

/-! ### o[i] = v -/
def rSetE (Ω : Wd) (W : WX) : TSet := fun o i v H Q => ∃ A m x y z, Rl Ω A m H ∧ RV Ω A H o x ∧ RV Ω A H i y ∧ RV Ω A H v z ∧ ∃ m', setV m x y z = .ok () m' ∧ ∀ H', Le A H A H' → Rl Ω A m' H' → Q H'
theorem set_E : PSet X (rSetE Ω W) := by
  intro pins s σ H o i v ov iv u Q I ro ri rv ⟨A, m, x, y, z, rl, r1, r2, r3, m', e, q⟩
  unfold setV at e
  split at e
  · rename_i l k
    obtain ⟨a, rfl, ea⟩ := r1.inv_loc
    cases r2.inv_int
    split at e
    · rename_i xs em
      obtain ⟨ws, h1, q1⟩ := rl.lstAt em ea
      cases hj : ixN xs.length k with
      | none => rw [hj] at e; cases e
      | some j =>
        rw [hj] at e
        cases e
        have ha : a ∈ A := List.mem_of_getElem? ea
        refine set_list pins s σ H _ _ v ov iv u Q I ro ri rv ⟨a, ws, k, j, rfl, rfl, h1, by rw [q1.length]; exact hj, ?_⟩
        exact q _ (Le.put ha) (rl.put ea ⟨_, upd_same, (q1.mono (Le.put ha)).set (r3.mono (Le.put ha)) j⟩)
    · cases e
  · cases e
theorem s_sub {o i e : Expr} {fo fi fe : Sl → M → R D} (ho : PE X o (tE Ω W fo)) (hi : PE X i (tE Ω W fi)) (he : PE X e (tE Ω W fe)) (hs : swapsWithSole [.Subscript o i p] e pos.line X.env = pure false) (hw : swappedStores [.Subscript o i p] e X.env = pure none)
    (h1 : (assignEach [.Subscript o i p] X.env).map (·.2) = [assign (.Subscript o i p) X.env])
    (ha : ∀ v, assign (.Subscript o i p) X.env v = (do
      let ov ← holding [v] (eval o X.env)
      let iv ← holding [v, ov] (eval i X.env)
      standAt p
      holding [v, ov, iv] (setItem ov iv v)
      release [v, ov, iv] [])) :
    PS X (.Assign [.Subscript o i p] e pos) (tS Ω W fun σ m => (fe σ m).go σ fun z m => (fo σ m).go σ fun x m => (fi σ m).go σ fun y m => subK σ z x y m) := by
  refine PS.imp (ps_asg he (pg_sub ho hi (set_E (Ω := Ω) (W := W)) ha) hs hw h1) fun D σ H ⟨A, m, σd, rl, rs, g⟩ => ?_
  refine tE.go (k := fun σ z m => (fo σ m).go σ fun x m => (fi σ m).go σ fun y m => subK σ z x y m) rl rs g fun v H1 A1 m1 z le rl1 rs1 rv g1 => ?_
  refine tE.go (k := fun σ x m => (fi σ m).go σ fun y m => subK σ z x y m) rl1 rs1 g1 fun ov H2 A2 m2 x le2 rl2 rs2 ro g2 => ?_
  refine tE.go (k := fun σ y m => subK σ z x y m) rl2 rs2 g2 fun iv H3 A3 m3 y le3 rl3 rs3 ri g3 => ?_
  unfold subK at g3
  cases e1 : setV m3 x y z with
  | stuck => rw [e1] at g3; exact g3.elim
  | exc q m' => rw [e1] at g3; exact g3.elim
  | ok u m' =>
    rw [e1] at g3
    exact ⟨A3, m3, x, y, z, rl3, ro.mono le3, ri, (rv.mono le2).mono le3, m', e1, fun H' le' rl' => g3 A3 H' le' rl' σ (rs3.mono le')⟩

/-! ### name op= e, of ints -/
theorem s_aug {i : Nat} {x : Str} {e : Expr} {pos' : Pos} {f : Sl → M → R D} {o : Bop} (ho : o = .add ∨ o = .sub) (hK : X.K = Ω.K) (hN : X.N.Nodup) (hi : X.N[i]? = some x) (hx : Loc X.env.scope x) (he : PE X e (tE Ω W f))
    (hf : X.fn x = true ∨ X.env.scope.names.lookup x = some .local) : PS X (.AugAssign (.Name x pos') (bopOf o) e pos) (tS Ω W fun σ m => (ofO ((σ[i]?).join) m).bind fun a m => (f σ m).go σ fun y m => augK i o σ a y m) := by
  have key : ∀ {ti : TIp}, PIp X (bopOf o) ti → (∀ a b H Q, (∃ z, binV o ([] : M) (.int a) (.int b) = .ok (.int z) [] ∧ Q (V.int z) H) → ti (.int a) (.int b) H Q) → PS X (.AugAssign (.Name x pos') (bopOf o) e pos) (tS Ω W fun σ m => (ofO ((σ[i]?).join) m).bind fun a m => (f σ m).go σ fun y m => augK i o σ a y m) := by
    intro ti hop hti
    refine PS.imp (ps_aug hN hi hx he hop hf) fun D σ H ⟨A, m, σd, rl, rs, g⟩ => ?_
    dsimp only at g
    cases e1 : (σd[i]?).join with
    | none => rw [e1] at g; exact g.elim
    | some d =>
      rw [e1] at g
      have e2 : σd[i]? = some (some d) := by
        cases h : σd[i]? with
        | none => rw [h] at e1; cases e1
        | some o => rw [h] at e1; simp at e1; rw [e1]
      obtain ⟨v, hv, rv⟩ := rs.at_ i d e2
      refine ⟨v, hv, ?_⟩
      refine tE.go (k := fun σ y m => augK i o σ d y m) rl rs g fun u H1 A1 m1 y le rl1 rs1 ru g1 => ?_
      unfold augK at g1
      split at g1
      · rename_i a b
        cases rv.inv_int
        cases ru.inv_int
        have hz : ∃ z, ∀ m : M, binV o m (.int a) (.int b) = .ok (.int z) m := by
          rcases ho with rfl | rfl
          · exact ⟨a + b, fun _ => rfl⟩
          · exact ⟨a - b, fun _ => rfl⟩
        obtain ⟨z, hz⟩ := hz
        rw [hz m1] at g1
        exact hti a b H1 _ ⟨z, hz [], g1.ok rl1 _ (rs1.set (.int z))⟩
      · exact g1.elim
  rcases ho with rfl | rfl
  · exact key (ti := rI0 fun i j => .int (i + j)) iop_add fun a b H Q ⟨z, e, q⟩ => by cases e; exact ⟨a, b, rfl, rfl, q⟩
  · exact key (ti := rI0 fun i j => .int (i - j)) iop_sub fun a b H Q ⟨z, e, q⟩ => by cases e; exact ⟨a, b, rfl, rfl, q⟩

/-! ### what a call leaves -/
theorem RV.shrink {n : Nat} : ∀ {v : V} {d : D}, RV Ω A H v d → d.undr n = true → ∀ {B : List Addr}, (∀ a, a ∉ A → a ∉ B) → (∀ l, l < n → B[l]? = A[l]?) → RV Ω B H v d := by
  intro v d h
  exact RV.rec (motive_1 := fun v d _ => d.undr n = true → ∀ {B : List Addr}, (∀ a, a ∉ A → a ∉ B) → (∀ l, l < n → B[l]? = A[l]?) → RV Ω B H v d)
    (motive_2 := fun vs ds _ => D.undrL n ds = true → ∀ {B : List Addr}, (∀ a, a ∉ A → a ∉ B) → (∀ l, l < n → B[l]? = A[l]?) → RVs Ω B H vs ds)
    (fun _ _ _ _ => .non) (fun b _ _ _ _ => .bl b) (fun i _ _ _ _ => .int i) (fun s _ _ _ _ => .str s) (fun s _ _ _ _ => .ty s)
    (fun h n _ q u B hB hl => .tup h (hB _ n) (q (by simpa [D.undr] using u) hB hl)) (fun h _ q u B hB hl => .tupK h (q (by simpa [D.undr] using u) hB hl))
    (fun {a l} e u B hB hl => .loc (by rw [hl l (by simp only [D.undr] at u; exact Nat.le_of_ble_eq_true u)]; exact e)) (fun k _ _ _ _ => .fn k) (fun k _ _ _ _ => .cls k)
    (fun _ _ _ _ => .nil) (fun _ _ r q u B hB hl => by
      simp only [D.undrL, Bool.and_eq_true] at u
      exact .cons (r u.1 hB hl) (q u.2 hB hl)) h
theorem RVs.shrink {n : Nat} : ∀ {vs : List V} {ds : List D}, RVs Ω A H vs ds → D.undrL n ds = true → ∀ {B : List Addr}, (∀ a, a ∉ A → a ∉ B) → (∀ l, l < n → B[l]? = A[l]?) → RVs Ω B H vs ds
  | _, _, .nil, _, _, _, _ => .nil
  | _, _, .cons r q, u, _, hB, hl => by
    simp only [D.undrL, Bool.and_eq_true] at u
    exact .cons (r.shrink u.1 hB hl) (RVs.shrink q u.2 hB hl)
theorem undrL_of : ∀ {ds : List D} {n : Nat}, ds.all (D.undr n) = true → D.undrL n ds = true
  | [], _, _ => by simp [D.undrL]
  | d :: ds, n, h => by
    simp only [List.all_cons, Bool.and_eq_true] at h
    simp only [D.undrL, Bool.and_eq_true]
    exact ⟨h.1, undrL_of h.2⟩
theorem RO.shrink {n : Nat} {a : Addr} {o : MO} (h : RO Ω A H a o) (u : o.undr n = true) {B : List Addr} (hB : ∀ a, a ∉ A → a ∉ B) (hl : ∀ l, l < n → B[l]? = A[l]?) : RO Ω B H a o := by
  cases o with
  | lst ds => obtain ⟨xs, h1, h2⟩ := h; exact ⟨xs, h1, h2.shrink u hB hl⟩
  | frz ds => obtain ⟨o, xs, h1, h2⟩ := h; exact ⟨o, xs, h1, h2.shrink u hB hl⟩
  | ins c fs =>
    obtain ⟨dx, vs, h1, h2, h3⟩ := h
    refine ⟨dx, vs, h1, h2, h3.shrink (undrL_of ?_) hB hl⟩
    simp only [MO.undr] at u
    rw [List.all_map]
    exact u
  | dct _ => exact h.elim
theorem Rl.take (rl : Rl Ω A m H) {n : Nat} (u : (m.take n).all (MO.undr n) = true) : Rl Ω (A.take n) (m.take n) H := by
  have hB : ∀ a, a ∉ A → a ∉ A.take n := fun a h q => h (List.mem_of_mem_take q)
  have hl : ∀ l, l < n → (A.take n)[l]? = A[l]? := fun l h => by rw [List.getElem?_take, if_pos h]
  refine ⟨by simp [rl.len], rl.nd.sublist (List.take_sublist n A), fun l o a e1 e2 => ?_⟩
  have hln : l < n := by
    have := (List.getElem?_eq_some_iff.mp e1).1
    simp at this; omega
  have em : m[l]? = some o := by rw [List.getElem?_take, if_pos hln] at e1; exact e1
  have eA : A[l]? = some a := by rw [← hl l hln]; exact e2
  exact (rl.obj l o a em eA).shrink (List.all_eq_true.mp u o (List.mem_of_getElem? e1)) hB hl
/-- A1, m1: ahead of a call; A', m': where its body ends, with d -/
theorem gc_ok {A1 : List Addr} {m1 : M} {H1 : Hp} (l1 : A1.length = m1.length) (le : Le A1 H1 A' H') (rl : Rl Ω A' m' H') {d : D} {v : V} (rv : RV Ω A' H' v d) :
    ∃ B, Le A1 H1 B H' ∧ Rl Ω B (gc m1.length d m').2 H' ∧ RV Ω B H' v (gc m1.length d m').1 := by
  have self : ∃ B, Le A1 H1 B H' ∧ Rl Ω B m' H' ∧ RV Ω B H' v d := ⟨A', le, rl, rv⟩
  unfold gc
  split
  · exact self
  · split
    · rename_i hu
      obtain ⟨C, eC⟩ := le.pre
      have eT : A'.take m1.length = A1 := by rw [eC, ← l1]; simp
      have rt := rl.take hu
      rw [eT] at rt
      have leT : Le A1 H1 A1 H' := ⟨⟨[], by simp⟩, le.keep, fun _ h => .inl h, le.there⟩
      have hB : ∀ a, a ∉ A' → a ∉ A1 := fun a h q => h (by rw [eC]; exact List.mem_append_left _ q)
      have hl : ∀ l, l < m1.length → A1[l]? = A'[l]? := fun l h => by rw [eC, List.getElem?_append_left (by rw [l1]; exact h)]
      split
      · rename_i k
        obtain ⟨a, rfl, ea⟩ := rv.inv_loc
        split
        · rename_i hk
          exact ⟨A1, leT, rt, .loc (by rw [hl k hk]; exact ea)⟩
        · rename_i hk
          split
          · rename_i o eo
            split
            · rename_i ou
              have ro := rl.obj k o a eo ea
              have haT : a ∉ A1 := fun q => by
                obtain ⟨j, hj, e⟩ := List.getElem_of_mem q
                have hj' : A'[j]? = some a := by rw [eC, List.getElem?_append_left hj, List.getElem?_eq_getElem hj, e]
                have := nodup_at rl.nd hj' ea
                omega
              have hB2 : ∀ b, b ∉ A' → b ∉ A1 ++ [a] := fun b h q => by
                rcases List.mem_append.mp q with q | q
                · exact hB b h q
                · rw [List.mem_singleton.mp q] at h; exact h (List.mem_of_getElem? ea)
              have hl2 : ∀ l, l < m1.length → (A1 ++ [a])[l]? = A'[l]? := fun l h => by rw [List.getElem?_append_left (by rw [l1]; exact h)]; exact hl l h
              refine ⟨A1 ++ [a], ⟨⟨[a], rfl⟩, le.keep, fun b hb => ?_, le.there⟩, ⟨by simp [rt.len], ?_, fun j u b e1 e2 => ?_⟩, .loc (by rw [← l1]; simp)⟩
              · rcases List.mem_append.mp hb with q | q
                · exact .inl q
                · rw [List.mem_singleton.mp q]; exact le.new a (List.mem_of_getElem? ea)
              · rw [List.nodup_append]
                exact ⟨rt.nd, by simp, fun b hb c hc => by simp at hc; subst hc; exact fun z => haT (z ▸ hb)⟩
              · by_cases hj : j < (m'.take m1.length).length
                · rw [List.getElem?_append_left hj] at e1
                  rw [List.getElem?_append_left (by rw [rt.len]; exact hj)] at e2
                  have jn : j < m1.length := by simp at hj; omega
                  have em : m'[j]? = some u := by rw [List.getElem?_take, if_pos jn] at e1; exact e1
                  exact (rl.obj j u b em (by rw [← hl j jn]; exact e2)).shrink (List.all_eq_true.mp hu u (List.mem_of_getElem? e1)) hB2 hl2
                · have hj' : (m'.take m1.length).length ≤ j := by omega
                  rw [List.getElem?_append_right hj'] at e1
                  rw [List.getElem?_append_right (by rw [rt.len]; exact hj'), rt.len] at e2
                  have h0 : j - (m'.take m1.length).length = 0 := by
                    have := (List.getElem?_eq_some_iff.mp e1).1
                    simp at this; simp; omega
                  rw [h0] at e1 e2
                  simp at e1 e2
                  subst e1 e2
                  exact ro.shrink ou hB2 hl2
            · exact self
          · exact self
      · split
        · rename_i hd
          exact ⟨A1, leT, rt, rv.shrink hd hB hl⟩
        · exact self
    · exact self
end
end Ev
set_option Elab.async false
set_option linter.all false
set_option maxRecDepth 100000
/-! EvL: binding of plain positional parameters; calls. -/
namespace Ev
open PySem PySem.Spec PyProof.Rows L2
/-- plain positional parameters -/
def plainP (p : Arguments) : Bool := p.posonlyargs.isEmpty && p.vararg.isNone && p.kwonlyargs.isEmpty && p.kwarg.isNone
section
variable {β : Type}
theorem lookup_none {x : Str} : ∀ {ps : List Str} {us : List β}, x ∉ ps → (ps.zip us).lookup x = none
  | [], _, _ => rfl
  | _ :: _, [], _ => rfl
  | p :: ps, u :: us, h => by
    have h1 : x ≠ p := fun e => h (e ▸ List.mem_cons_self)
    have h2 : (x == p) = false := by simpa using h1
    simp only [List.zip_cons_cons, List.lookup_cons, h2]
    exact lookup_none fun m => h (List.mem_cons_of_mem _ m)
theorem lookup_some {x : Str} : ∀ {ps : List Str} {us : List β} , x ∈ ps.take us.length → ((ps.zip us).lookup x).isSome = true
  | [], _, h => by simp at h
  | _ :: _, [], h => by simp at h
  | p :: ps, u :: us, h => by
    by_cases h1 : x = p
    · subst h1; simp [List.zip_cons_cons, List.lookup_cons]
    · have h2 : (x == p) = false := by simpa using h1
      simp only [List.zip_cons_cons, List.lookup_cons, h2]
      refine lookup_some ?_
      simpa [h1] using h
def addD (s : List (Str × β)) (x : Str × β) : List (Str × β) := if (s.lookup x.1).isNone then s ++ [x] else s
theorem addD_skip : ∀ {L s : List (Str × β)}, (∀ x ∈ L, (s.lookup x.1).isSome = true) → L.foldl addD s = s
  | [], _, _ => rfl
  | x :: L, s, h => by
    have h1 := h x List.mem_cons_self
    have e : addD s x = s := by
      unfold addD
      rw [if_neg]
      cases q : s.lookup x.1 with
      | none => rw [q] at h1; cases h1
      | some _ => simp
    rw [List.foldl_cons, e]
    exact addD_skip fun y hy => h y (List.mem_cons_of_mem _ hy)
theorem lookup_app {x : Str} : ∀ {s t : List (Str × β)}, (s ++ t).lookup x = ((s.lookup x).or (t.lookup x))
  | [], _ => by simp
  | (p, v) :: s, t => by
    simp only [List.cons_append, List.lookup_cons]
    split
    · simp
    · exact lookup_app
theorem addD_put : ∀ {L s : List (Str × β)}, (L.map (·.1)).Nodup → (∀ x ∈ L, s.lookup x.1 = none) → L.foldl addD s = s ++ L
  | [], s, _, _ => by simp
  | x :: L, s, nd, h => by
    have e : addD s x = s ++ [x] := by
      unfold addD
      rw [h x List.mem_cons_self]; rfl
    rw [List.foldl_cons, e, addD_put (List.nodup_cons.mp nd).2 fun y hy => ?_]
    · simp
    · rw [lookup_app, h y (List.mem_cons_of_mem _ hy)]
      have hne : y.1 ≠ x.1 := fun z => (List.nodup_cons.mp nd).1 (by have q := List.mem_map_of_mem (f := fun z : Str × β => z.1) hy; show x.1 ∈ _; rw [← z]; exact q)
      have : (y.1 == x.1) = false := beq_false_of_ne hne
      simp [List.lookup_cons, hne]
theorem fm_congr {α γ : Type} {f g : α → Option γ} : ∀ {l : List α}, (∀ x ∈ l, f x = g x) → l.filterMap f = l.filterMap g
  | [], _ => rfl
  | x :: l, h => by
    rw [List.filterMap_cons, List.filterMap_cons, h x List.mem_cons_self, fm_congr fun y hy => h y (List.mem_cons_of_mem _ hy)]
theorem get_back : ∀ {ps : List Str} {us : List β}, ps.Nodup → us.length = ps.length → ps.filterMap (fun n => ((ps.zip us).lookup n).map fun v => (n, v)) = ps.zip us
  | [], _, _, _ => rfl
  | p :: ps, [], _, h => by cases h
  | p :: ps, u :: us, nd, h => by
    have nd2 := List.nodup_cons.mp nd
    have ih := get_back (us := us) nd2.2 (by simpa using h)
    have e1 : (((p :: ps).zip (u :: us)).lookup p).map (fun v => (p, v)) = some (p, u) := by simp [List.zip_cons_cons, List.lookup_cons]
    rw [List.filterMap_cons_some (b := (p, u)) (by exact e1), List.zip_cons_cons]
    refine congrArg _ (.trans (fm_congr fun n hn => ?_) ih)
    have hne : n ≠ p := fun z => nd2.1 (z ▸ hn)
    have : (n == p) = false := beq_false_of_ne hne
    simp only [List.lookup_cons, this]
theorem forIn_addD {L s : List (Str × β)} {f : Str × β → List (Str × β) → Sem (ForInStep (List (Str × β)))} (hf : ∀ x s, f x s = pure (.yield (addD s x))) : forIn L s f = (pure (L.foldl addD s) : Sem (List (Str × β))) := by
  induction L generalizing s with
  | nil => rfl
  | cons x L ih => rw [List.forIn_cons, hf, pure_bind]; exact ih
end
theorem bind_plain {x qual : Str} {params : Arguments} {body : List Stmt} {scope : Scope} {dV kV doc pm : Value} {an : Option Addr} {cdv ct : Value} {us its : List Value} (hp : plainP params = true) (nd : (params.args.map (·.arg)).Nodup)
    (h1 : us.length ≤ params.args.length) (h2 : its.length ≤ params.args.length) (h3 : params.args.length ≤ us.length + its.length) :
    ∃ k, bindArgs (PySem.W.fnOf x qual params body scope dV kV doc pm an cdv ct) ⟨us, []⟩ = seqItems? dV >>= k ∧ ∀ o : Option (Array Value), (o.getD #[]).toList = its → k o = pure ((params.args.map (·.arg)).zip (us ++ its.drop (us.length + its.length - params.args.length))) := by
  obtain ⟨po, as, va, ko, kd, kw, df⟩ := params
  unfold plainP at hp
  simp only [Bool.and_eq_true, List.isEmpty_iff, Option.isNone_iff_eq_none] at hp
  obtain ⟨⟨⟨rfl, rfl⟩, rfl⟩, rfl⟩ := hp
  unfold bindArgs PySem.W.fnOf
  dsimp only at h1 h2 h3 nd ⊢
  simp only [List.map_nil, List.nil_append, List.append_nil, List.forIn_nil, pure_bind, Option.isSome_none, Option.isNone_none]
  generalize hps : List.map (fun x : Arg => x.arg) as = ps at nd ⊢
  have hl : ps.length = as.length := by rw [← hps]; simp
  rw [← hl] at h1 h2 h3 ⊢
  clear hl hps
  refine ⟨_, rfl, fun o ho => ?_⟩
  rw [ho]
  clear ho
  have z1 : decide (us.length > ps.length) = false := by simp; omega
  have z2 : its.length - ps.length = 0 := by omega
  have z3 : ((List.filter (fun n => (List.lookup n (ps.zip us)).isNone) (List.take (ps.length - its.length) ps)).isEmpty) = true := by
    rw [List.isEmpty_iff, List.filter_eq_nil_iff]
    intro n hn
    have : n ∈ ps.take us.length := by
      have hle : ps.length - its.length ≤ us.length := by omega
      exact (List.take_subset_take_left ps hle) hn
    have := lookup_some (us := us) this
    cases q : List.lookup n (ps.zip us) with
    | none => rw [q] at this; cases this
    | some _ => simp
  simp only [z1, z2, List.drop_zero, z3, Bool.false_and, Bool.not_true, if_neg (show ¬((false : Bool) = true) by decide), List.isEmpty_nil]
  rw [forIn_addD (f := _) (fun x s => by
    unfold addD
    split <;> rfl)]
  rw [pure_bind]
  congr 1
  have key : List.foldl addD (ps.zip us) ((List.drop (ps.length - its.length) ps).zip its) = ps.zip (us ++ its.drop (us.length + its.length - ps.length)) := by
    have sp : (List.drop (ps.length - its.length) ps).zip its = ((List.drop (ps.length - its.length) ps).zip its).take (us.length + its.length - ps.length) ++ (ps.drop us.length).zip (its.drop (us.length + its.length - ps.length)) := by
      have e := (List.take_append_drop (us.length + its.length - ps.length) ((List.drop (ps.length - its.length) ps).zip its)).symm
      have e2 : ((List.drop (ps.length - its.length) ps).zip its).drop (us.length + its.length - ps.length) = (ps.drop us.length).zip (its.drop (us.length + its.length - ps.length)) := by
        rw [List.zip, List.drop_zipWith, List.drop_drop]
        congr 2
        omega
      rw [e2] at e
      exact e
    have us_zip : ∀ (vs : List Value) (qs : List Str), qs.zip vs = (qs.take vs.length).zip vs := fun vs => by
      induction vs with
      | nil => intro qs; simp
      | cons v vs ih => intro qs; cases qs with
        | nil => simp
        | cons q qs => simp [List.zip_cons_cons, ← ih qs]
    have pA : ∀ x ∈ ((List.drop (ps.length - its.length) ps).zip its).take (us.length + its.length - ps.length), ((ps.zip us).lookup x.1).isSome = true := fun x hx => by
      rw [List.zip, List.take_zipWith] at hx
      have h4 := (List.of_mem_zip (show (x.1, x.2) ∈ _ from hx)).1
      rw [List.take_drop] at h4
      have h5 := List.mem_of_mem_drop h4
      refine lookup_some ?_
      have e : ps.length - its.length + (us.length + its.length - ps.length) = us.length := by omega
      rw [e] at h5
      exact h5
    have pB : ∀ x ∈ (ps.drop us.length).zip (its.drop (us.length + its.length - ps.length)), (ps.zip us).lookup x.1 = none := fun x hx => by
      have h4 := (List.of_mem_zip (show (x.1, x.2) ∈ _ from hx)).1
      rw [us_zip us ps]
      refine lookup_none fun h5 => ?_
      rw [← List.take_append_drop us.length ps, List.nodup_append] at nd
      exact nd.2.2 _ h5 _ h4 rfl
    have pC : (((ps.drop us.length).zip (its.drop (us.length + its.length - ps.length))).map (·.1)).Nodup := by
      have e := List.map_fst_zip (l₁ := List.drop us.length ps) (l₂ := List.drop (us.length + its.length - ps.length) its) (by simp; omega)
      show (List.map Prod.fst _).Nodup
      rw [e]
      exact nd.sublist (List.drop_sublist _ _)
    rw [sp, List.foldl_append, addD_skip pA, addD_put pC pB]
    have e3 : ps.zip (us ++ its.drop (us.length + its.length - ps.length)) = (ps.take us.length ++ ps.drop us.length).zip (us ++ its.drop (us.length + its.length - ps.length)) := by rw [List.take_append_drop]
    rw [e3, List.zip_append (by rw [List.length_take]; omega), ← us_zip us ps]
  rw [key]
  exact get_back nd (by simp; omega)
theorem plain_binds {K : PySem.W.Frag} {x qual : Str} {params : Arguments} {body : List Stmt} {scope : Scope} {dvs : List V} {f : Addr} {fd : FuncData} (F : FunD K x qual params body scope dvs [] f fd) (hp : plainP params = true) (nd : (params.args.map (·.arg)).Nodup)
    {n : Nat} (h1 : n ≤ params.args.length) (h2 : dvs.length ≤ params.args.length) (h3 : params.args.length ≤ n + dvs.length) :
    ∃ ds, Vals (dvs.drop (n + dvs.length - params.args.length)) ds ∧ Binds K fd (params.args.map (·.arg)) ds := by
  obtain ⟨oc, od, dV, kV, doc, pm, an, cdv, ct, osl, rfl, lk, hcd, hD, hK⟩ := F.ex
  rcases hD with ⟨rfl, rfl⟩ | ⟨hd, T, o, its, m, rfl, lT, oT, rT⟩
  · refine ⟨[], by rw [List.drop_nil]; exact .nil, fun s us X hlen => ?_⟩
    rw [List.append_nil] at hlen ⊢
    have hl : us.length = params.args.length := by simpa using hlen
    obtain ⟨k, e1, e2⟩ := bind_plain (x := x) (qual := qual) (body := body) (scope := scope) (dV := .none) (kV := kV) (doc := doc) (pm := pm) (an := an) (cdv := cdv) (ct := ct) (us := us) (its := []) hp nd (by omega) (by simp) (by simp; omega)
    refine BindsTo.of_eq ?_
    rw [e1]
    have := e2 none rfl
    simp only [List.drop_nil, List.append_nil] at this
    exact this
  · have l1 : its.length = dvs.length := rT.length.symm
    refine ⟨its.drop (n + dvs.length - params.args.length), rT.drop _, fun s us X hlen => ?_⟩
    have hl : us.length = n := by
      simp only [List.length_append, List.length_drop, List.length_map] at hlen
      omega
    obtain ⟨k, e1, e2⟩ := bind_plain (x := x) (qual := qual) (body := body) (scope := scope) (dV := .ref T) (kV := kV) (doc := doc) (pm := pm) (an := an) (cdv := cdv) (ct := ct) (us := us) (its := its) hp nd (by omega) (by omega) (by omega)
    refine BindsTo.of_looks fun M => ?_
    rw [e1]
    refine looks_items X lT oT (.of_pure ?_)
    have := e2 (some its.toArray) (by simp)
    rw [hl, l1] at this
    exact this

/-! ### calls -/
/-- what a def promises -/
def GdC (Ω : Wd) (A : List Addr) (H : Hp) (r : R D) (Q : VK) (E : XK) : Prop := match r with
  | .ok d m' => ∀ A' H' v, Le A H A' H' → Rl Ω A' m' H' → RV Ω A' H' v d → Q v H'
  | .exc x m' => ∀ A' H' cls dx, Le A H A' H' → Rl Ω A' m' H' → RX Ω A' H' x cls dx → E cls dx H'
  | .stuck => False
def spF (Ω : Wd) (g : List D → M → R D) (n : Nat) : Sp := fun vs H Q E => ∃ A m ds, Rl Ω A m H ∧ RVs Ω A H vs ds ∧ vs.length = n ∧ GdC Ω A H (g ds m) Q E
/-- the defaults that fill up -/
def DflR (Ω : Wd) (dvs : List V) (ds : List D) : Prop := ∀ A H, RVs Ω A H dvs ds
section
variable {X : Cx} {Ω : Wd} {W : WX} {pos p : Pos} {lv n : Nat} {f : Addr} {fd : FuncData} {ps : List Str} {x : Str} {dvs : List V} {ds : List D} {us : List Value} {g : List D → M → R D}
theorem call_imp {fs : Sl → M → R (List D)} (hr : DflR Ω dvs ds) {σ : L2.St} {H : Hp} {Q : VK} (hl : ∀ es m, g es m ≠ .stuck → es.length = n) (h : tE Ω W (fun σ m => (fs σ m).bind fun es m => g (es ++ ds) m) σ H Q) :
    tCallSD (spF Ω g n) dvs (WE W) (tA Ω W fs) σ H Q := by
  obtain ⟨A, m, σd, rl, rs, g1⟩ := h
  have g1 : Gd Ω W σ A H ((fs σd m).bind fun es m => g (es ++ ds) m) (pV Ω Q) := g1
  refine ⟨A, m, σd, rl, rs, ?_⟩
  cases e : fs σd m with
  | stuck => rw [e] at g1; exact g1
  | exc x m' => rw [e] at g1; exact g1
  | ok es m1 =>
    rw [e] at g1
    intro A1 H1 le rl1 vs rvs
    change Gd Ω W σ A H (g (es ++ ds) m1) (pV Ω Q) at g1
    have l1 := hl (es ++ ds) m1 fun z => by rw [z] at g1; exact g1
    refine ⟨A1, m1, es ++ ds, rl1, rvs.append (hr A1 H1), ?_, ?_⟩
    · rw [← l1]
      exact (rvs.append (hr A1 H1)).length
    · have g2 := Gd.le g1 le
      cases e2 : g (es ++ ds) m1 with
      | stuck => rw [e2] at g2; exact g2
      | exc x m' => rw [e2] at g2; exact fun A' H' cls dx l r rx => g2 A' H' cls dx l r rx
      | ok d m' => rw [e2] at g2; exact fun A' H' v l r rv => g2 A' H' l r v rv
/-- a def keeps its promise where no guard is under way -/
structure FnG (P : Program) (w : World) (K : PySem.W.Frag) (mg : Str → Option Value) (base : Heap) (k : Nat) (f : Addr) (fd : FuncData) (ps : List Str) (sp : Sp) : Prop where
  go : ∀ (Ar : Around) (out : List Env) (st : Shared) (Hh : Hp) (ars : Args) (ws : List Value) (xs : List V) (Qr : VK) (Er : XK), Room k Ar → Ar.guards = some [] → Env0 P w K mg base Ar out st Hh → BindsTo st fd ars (ps.zip ws) → Vals xs ws → sp xs Hh Qr Er →
    codeAny (model P w) Ar (.call (.ref f) ars) (CR (L2.CX P w) out P w Hh st Qr Er) st
/-- the callee runs -/
theorem go_fn {pins : List (Addr × Obj)} {σ : L2.St} {H : Hp} {s : Shared} {Q : VK} {ws : List Value} {xs : List V} {sp : Sp} {vd : List Value} (F : FnG X.prog X.w X.K X.mg X.base lv f fd ps sp) (hl : ∀ vs H Q E, sp vs H Q E → vs.length = ps.length) (hr : Room lv X.A) (hgd : X.A.guards = some [])
    (hb : Binds X.K fd ps vd) (hd : Vals dvs vd) (tk : Takes X W) (I : Inv X pins σ H s) (r : Vals xs ws) (h : sp (xs ++ dvs) H Q (WE W σ)) : wpAny (model X.prog X.w) X.A (PySem.call (.ref f) ws) (EP X pins σ Q) X.xe s := by
  have ra : Vals (xs ++ dvs) (ws ++ vd) := r.append hd
  have hn : (ws ++ vd).length = ps.length := ra.length.symm.trans (hl _ _ _ _ h)
  have c := F.go X.A X.stack s H ⟨ws, []⟩ (ws ++ vd) (xs ++ dvs) Q (WE W σ) hr hgd I.env0 (hb s ws I.kIn hn) ra h
  refine wpAny_call (codeAny_mono c fun o s' hq => ?_)
  rcases o with e | fl
  · exact passAt tk σ pins H s e s' I hq
  · cases fl <;> first | exact I.after hq | exact False.elim hq
/-- what stands of a def, ready to be called from X -/
structure FnR (X : Cx) (Ω : Wd) (lv : Nat) (x : Str) (ps : List Str) (ds : List D) (g : List D → M → R D) : Prop where
  ex : ∃ f fd, X.mg x = some (.ref f) ∧ PySem.W.keepIn X.K (.ref f) = true ∧ FnG X.prog X.w X.K X.mg X.base lv f fd ps (spF Ω g ps.length) ∧
    ∀ n, n ≤ ps.length → ps.length ≤ n + ds.length → ∃ dvs us, DflR Ω dvs (ds.drop (n + ds.length - ps.length)) ∧ Vals dvs us ∧ Binds X.K fd ps us
  len : ∀ es m, g es m ≠ .stuck → es.length = ps.length
theorem spF_len {vs : List V} {H : Hp} {Q : VK} {E : XK} (h : spF Ω g n vs H Q E) : vs.length = n := by
  obtain ⟨_, _, _, _, _, l, _⟩ := h
  exact l
theorem s_call {e : Expr} {es : List Expr} {fs : Sl → M → R (List D)} (F : FnR X Ω lv x ps ds g) (hr : Room lv X.A) (hgd : X.A.guards = some []) (hg : Gl X x) (tk : Takes X W) (ha : PA X (e :: es) (tA Ω W fs)) (hn : n ≤ ps.length) (hn2 : ps.length ≤ n + ds.length) (hdb : (x == ("__debug__" : Str)) = false)
    (st : NoSt X e es pos) : PE X (.Call (.Name x p) (e :: es) [] pos) (tE Ω W fun σ m => (fs σ m).bind fun es m => g (es ++ ds.drop (n + ds.length - ps.length)) m) := by
  obtain ⟨f, fd, hm, hk, F1, hb⟩ := F.ex
  obtain ⟨dvs, us, hd, hv, hb⟩ := hb n hn hn2
  constructor
  intro pins s σ H Q I h
  have h := call_imp (W := W) hd F.len h
  refine wpAny_Call_Name_kw (ld_glob I hg hm (PySem.W.callWith_K (h₀ := X.base) I.ok.mod.kin hk (thn (ha.run pos pins s σ H _ I h) ?_) st.hd st.tl) hdb)
  rintro ws s1 ⟨xs, H1, I1, r, q⟩
  exact ⟨I1.kIn, go_fn F1 (fun _ _ _ _ => spF_len) hr hgd hb hv tk I1 r q⟩
theorem s_call0 (F : FnR X Ω lv x ps ds g) (hr : Room lv X.A) (hgd : X.A.guards = some []) (hg : Gl X x) (tk : Takes X W) (hn : n ≤ ps.length) (hn2 : ps.length ≤ n + ds.length) (hdb : (x == ("__debug__" : Str)) = false) :
    PE X (.Call (.Name x p) [] [] pos) (tE Ω W fun σ m => (R.ok [] m).bind fun es m => g (es ++ ds.drop (n + ds.length - ps.length)) m) := by
  obtain ⟨f, fd, hm, hk, F1, hb⟩ := F.ex
  obtain ⟨dvs, us, hd, hv, hb⟩ := hb n hn hn2
  constructor
  intro pins s σ H Q I h
  obtain ⟨A, m, σd, rl, rs, g2⟩ := call_imp (W := W) hd F.len h
  exact wpAny_Call_Name_kw (ld_glob I hg hm (PySem.W.callWith_K0 I.kIn hk (go_fn (ws := []) (xs := []) F1 (fun _ _ _ _ => spF_len) hr hgd hb hv tk I .nil (g2.ok rl [] .nil))) hdb)
end

/-! ### a def's body -/
def callF (fs : Fs) (W : Nat) (f : FD) (ds : List D) (m : M) : R D :=
  if ds.length = f.np then
    match ex fs W f.body (ds.map some ++ List.replicate (f.n - f.np) none) m with
      | .ok (.nx _) m' => .ok (gc m.length .non m').1 (gc m.length .non m').2
      | .ok (.ret d) m' => .ok (gc m.length d m').1 (gc m.length d m').2
      | .ok (.rs x _) m' => if x.fs.all fun p => p.2.undr m.length then .exc x (gc m.length .non m').2 else .exc x m'
      | _ => .stuck
  else .stuck
def runF (p : List FD) (W : Nat) : Nat → Fs
  | 0 => fun _ _ _ => .stuck
  | n + 1 => fun k ds m => match p[k]? with
    | some f => callF (runF p W n) W f ds m
    | none => .stuck
section
variable {Ω : Wd} {A A' : List Addr} {H H' : Hp} {m m' : M}
theorem RX.shrink {x : XD} {cls : Value} {dx : Option Addr} (h : RX Ω A H x cls dx) {n : Nat} (u : (x.fs.all fun p => p.2.undr n) = true) {B : List Addr} (hB : ∀ a, a ∉ A → a ∉ B) (hl : ∀ l, l < n → B[l]? = A[l]?) : RX Ω B H x cls dx := by
  obtain ⟨h1, h2⟩ := h
  refine ⟨h1, ?_⟩
  obtain ⟨c, fs⟩ := x
  cases fs with
  | nil => exact h2
  | cons f fs =>
    obtain ⟨d, vs, e1, e2, e3, e4, e5⟩ := h2
    refine ⟨d, vs, e1, e2, hB _ e3, e4, e5.shrink (undrL_of ?_) hB hl⟩
    rw [List.all_map]
    exact u
theorem gcx_ok {A1 : List Addr} {m1 : M} {H1 : Hp} (l1 : A1.length = m1.length) (le : Le A1 H1 A' H') (rl : Rl Ω A' m' H') {x : XD} {cls : Value} {dx : Option Addr} (rx : RX Ω A' H' x cls dx) (u : (x.fs.all fun p => p.2.undr m1.length) = true) :
    ∃ B, Le A1 H1 B H' ∧ Rl Ω B (gc m1.length .non m').2 H' ∧ RX Ω B H' x cls dx := by
  have self : ∃ B, Le A1 H1 B H' ∧ Rl Ω B m' H' ∧ RX Ω B H' x cls dx := ⟨A', le, rl, rx⟩
  unfold gc
  split
  · exact self
  · split
    · rename_i hu
      obtain ⟨C, eC⟩ := le.pre
      have eT : A'.take m1.length = A1 := by rw [eC, ← l1]; simp
      have rt := rl.take hu
      rw [eT] at rt
      have leT : Le A1 H1 A1 H' := ⟨⟨[], by simp⟩, le.keep, fun _ h => .inl h, le.there⟩
      have hB : ∀ a, a ∉ A' → a ∉ A1 := fun a h q => h (by rw [eC]; exact List.mem_append_left _ q)
      have hl : ∀ l, l < m1.length → A1[l]? = A'[l]? := fun l h => by rw [eC, List.getElem?_append_left (by rw [l1]; exact h)]
      dsimp only
      split
      · exact ⟨A1, leT, rt, rx.shrink u hB hl⟩
      · exact self
    · exact self
theorem start_RS {N : List Str} {vs : List V} {ds : List D} (h : RVs Ω A H vs ds) : RS Ω A H (ds.map some ++ List.replicate (N.length - ds.length) none) (start N vs) := by
  have hl := h.length
  refine ⟨by simp [L2.start, hl], fun i d e => ?_⟩
  have hi : i < ds.length := by
    refine Decidable.byContradiction fun z => ?_
    rw [List.getElem?_append_right (by simp; omega), List.getElem?_replicate] at e
    split at e <;> simp at e
  rw [List.getElem?_append_left (by simpa using hi), List.getElem?_map] at e
  cases q : ds[i]? with
  | none => rw [q] at e; simp at e
  | some d' =>
    rw [q] at e
    simp at e
    subst e
    obtain ⟨v, hv, rv⟩ := h.get q
    refine ⟨v, ?_, rv⟩
    unfold L2.start
    rw [List.getElem?_append_left (by simp; omega), List.getElem?_map, hv]
    rfl
end
theorem fn_level {P : Program} {w : World} {K : PySem.W.Frag} {mg : Str → Option Value} {base : Heap} {x qual : Str} {params : Arguments} {body : List Stmt} {scope : Scope} {dvs : List V} {f : Addr} {fd : FuncData} {N ps : List Str} {k Wn : Nat} {Ω : Wd} {fs : Fs} {b : S}
    (F : FunD K x qual params body scope dvs [] f fd) (S : FnScope N ps scope)
    (hb : ∀ (cdv : Value) (A : Around) (outer : List Env) (s : Shared) (H : Hp) (E : XK), Room k (A.deeper (envOfC qual scope s.heap.objs.size f cdv)) → A.guards = some [] →
      PSs (cxOf (L2.CX P w) P w K mg base N qual scope f cdv A outer s H E) body (tS Ω (fun cls dx _ H => E cls dx H) (ex fs Wn b))) :
    FnG P w K mg base (k + 1) f fd ps (spF Ω (callF fs Wn ⟨ps.length, N.length, b⟩) ps.length) := by
  obtain ⟨oc, od, dV, kV, doc, pm, an, cdv, ct, osl, rfl, lk, hcd, _, _⟩ := F.ex
  constructor
  intro A outer s H args us vs Q E hr hgd e0 hbi r hsp
  refine LamX.run_ofS lk hcd S hr e0 hbi r (spF_len hsp) fun hroom => ⟨_, hb cdv A outer s H E hroom hgd, ?_⟩
  obtain ⟨A0, m, ds, rl, rvs, l, g⟩ := hsp
  have hl : ds.length = ps.length := by rw [← l]; exact rvs.length.symm
  unfold callF at g
  rw [if_pos hl] at g
  have hrs := start_RS (N := N) rvs
  rw [hl] at hrs
  refine ⟨A0, m, _, rl, hrs, ?_⟩
  cases e : ex fs Wn b (ds.map some ++ List.replicate (N.length - ps.length) none) m with
  | stuck => rw [e] at g; exact g
  | exc x m' => rw [e] at g; exact g
  | ok fl m' =>
    rw [e] at g
    intro A' H' le rl'
    cases fl with
    | nx σd =>
      intro σ' rs'
      obtain ⟨B, le2, rl2, rv2⟩ := gc_ok rl.len le rl' (d := .non) (v := .non) .non
      exact g B H' _ le2 rl2 rv2
    | ret d =>
      intro v rv
      obtain ⟨B, le2, rl2, rv2⟩ := gc_ok rl.len le rl' rv
      exact g B H' _ le2 rl2 rv2
    | bk σd => exact g.elim
    | ct σd => exact g.elim
    | rs x σd =>
      intro σ' cls dx rs' rx
      dsimp only at g
      split at g
      · rename_i hu
        obtain ⟨B, le2, rl2, rx2⟩ := gcx_ok rl.len le rl' rx hu
        exact g B H' _ _ le2 rl2 rx2
      · exact g A' H' _ _ le rl' rx
theorem runF_len {p : List FD} {Wn d k : Nat} {f : FD} (h : p[k]? = some f) {es : List D} {m : M} (hs : runF p Wn d k es m ≠ .stuck) : es.length = f.np := by
  cases d with
  | zero => exact absurd rfl hs
  | succ d =>
    unfold runF at hs
    rw [h] at hs
    dsimp only at hs
    unfold callF at hs
    split at hs
    · assumption
    · exact absurd rfl hs
end Ev
set_option Elab.async false
set_option linter.all false
set_option maxRecDepth 100000
/-! EvM: a text of the program is my text: the checks. -/
namespace Ev
open PySem PySem.Spec PyProof.Rows L2

/-! ### sameness of values -/
mutual
def same : D → D → Bool
  | .non, .non => true
  | .bl a, .bl b => a == b
  | .int i, .int j => decide (i = j)
  | .str x, .str y => decide (x = y)
  | .ty a, .ty b => decide (a = b)
  | .tup xs, .tup ys => sameL xs ys
  | .fn a, .fn b => Nat.beq a b
  | .cls a, .cls b => Nat.beq a b
  | _, _ => false
def sameL : List D → List D → Bool
  | [], [] => true
  | x :: xs, y :: ys => same x y && sameL xs ys
  | _, _ => false
end
mutual
theorem same_ok : ∀ {a b : D}, same a b = true → a = b
  | .non, b, h => by cases b <;> simp_all [same]
  | .bl _, b, h => by cases b <;> simp_all [same]
  | .int _, b, h => by cases b <;> simp_all [same]
  | .str _, b, h => by cases b <;> simp_all [same]
  | .ty _, b, h => by cases b <;> simp_all [same]
  | .tup xs, b, h => by
    cases b <;> try (simp [same] at h; done)
    rename_i ys
    exact congrArg D.tup (sameL_ok (by simpa [same] using h))
  | .fn _, b, h => by
    cases b <;> try (simp [same] at h; done)
    exact congrArg D.fn (Nat.eq_of_beq_eq_true (by simpa only [same] using h))
  | .cls _, b, h => by
    cases b <;> try (simp [same] at h; done)
    exact congrArg D.cls (Nat.eq_of_beq_eq_true (by simpa only [same] using h))
  | .loc _, b, h => by cases b <;> simp [same] at h
  | .lam _ _, b, h => by cases b <;> simp [same] at h
theorem sameL_ok : ∀ {xs ys : List D}, sameL xs ys = true → xs = ys
  | [], ys, h => by cases ys <;> simp_all [sameL]
  | x :: xs, ys, h => by
    cases ys with
    | nil => simp [sameL] at h
    | cons y ys =>
      simp only [sameL, Bool.and_eq_true] at h
      rw [same_ok h.1, sameL_ok h.2]
end

/-! ### the table -/
/-- a def of the program: its name, its parameters, all its defaults -/
structure FE where
  x : Str
  ps : List Str
  ds : List D
/-- what the module's names stand for, which built-in names are free, the defs -/
structure Tab where
  G : List (Str × D)
  B : List Str
  F : List FE
/-- where a text stands: its scope, the names whose cells are its own -/
structure Pl where
  sc : Scope
  own : Str → Bool

def notDbg (x : Str) : Bool := !(x == ("__debug__" : Str)) && !(x == ("__classdict__" : Str))
def kind? (sc : Scope) (x : Str) : Option NameKind := sc.names.lookup x
def visB (sc : Scope) (x : Str) : Bool := match kind? sc x with
  | some .local => true
  | some .cell => true
  | some .free => true
  | _ => false
/-- a name that may be stored -/
def locB (p : Pl) (x : Str) : Bool := match kind? p.sc x with
  | some .local => true
  | some .cell => p.own x
  | _ => false
def glB (sc : Scope) (x : Str) : Bool := match kind? sc x with
  | some .globalImplicit => true
  | _ => false
def isStar : Expr → Bool
  | .Starred .. => true
  | _ => false
def isSetE : Expr → Bool
  | .Set .. => true
  | _ => false
def isSlice : Expr → Bool
  | .Slice .. => true
  | _ => false
def isCompE : Expr → Bool
  | .ListComp .. => true
  | .SetComp .. => true
  | .DictComp .. => true
  | _ => false
def isTupE : Expr → Bool
  | .Tuple .. => true
  | _ => false
/-- an expression that isTrue takes by its value -/
def plainT : Expr → Bool
  | .UnaryOp .Not _ _ => false
  | .BoolOp .. => false
  | .IfExp .. => false
  | .Compare .. => false
  | _ => true
def noStars (es : List Expr) : Bool := es.all fun e => !isStar e
def litB (d : D) : Const → Bool
  | .int i => (match d with | .int j => decide (i = j) | _ => false)
  | .bool b => (match d with | .bl c => b == c | _ => false)
  | .none => (match d with | .non => true | _ => false)
  | .str x => (match d with | .str y => decide (x = y) | _ => false)
  | _ => false
def biName : Bi → Str
  | .len => "len" | .abs => "abs" | .min => "min" | .max => "max" | .sum => "sum" | .all => "all" | .any => "any"
  | .tuple => "tuple" | .list => "list" | .int => "int" | .str => "str" | .repr => "repr" | .isinst => "isinstance" | .type => "type" | .sorted => "sorted"
def freeB (T : Tab) (p : Pl) (x : Str) : Bool := glB p.sc x && T.B.contains x
/-- built-in types that stand under their names -/
def tyNames : List String := ["int", "bool", "str", "tuple", "list", "dict", "set", "float"]

/-! ### targets -/
mutual
def ckT (N : List Str) (p : Pl) : T → Expr → Bool
  | .nm i, .Name x _ => decide (N[i]? = some x) && locB p x
  | .tp ts, .Tuple es _ _ => ckTs N p ts es
  | _, _ => false
def ckTs (N : List Str) (p : Pl) : T → List Expr → Bool
  | .nil, [] => true
  | .cons t ts, e :: es => !isStar e && ckT N p t e && ckTs N p ts es
  | _, _ => false
end

/-! ### expressions -/
structure CK where
  e : Pl → Expr → Bool
  t : Pl → Expr → Bool := fun p x => plainT x && e p x
  a : Pl → List Expr → Bool := fun _ _ => false
  o : Pl → Option Expr → Bool := fun p x => match x with
    | some x => e p x
    | none => false
  q : Pl → Expr → Bool := e
  i : Pl → Expr → Expr → Bool := fun _ _ _ => false
def noE : Pl → Expr → Bool := fun _ _ => false
def compPl (p : Pl) (scope : Scope) : Pl := ⟨relS scope p.sc, fun x => kind? scope x == some .cell⟩
def ckComp (N : List Str) (own : List (Str × Nat)) (t : T) (cit cc ce : CK) (nc : Bool) (p : Pl) : Expr → Bool
  | .ListComp elt [⟨tg, iter, ifs, 0⟩] scope _ =>
    cit.i p tg iter && blkC N p.sc scope own && ckT N (compPl p scope) t tg && (match ifs with
      | [] => nc
      | [c] => !nc && cc.t (compPl p scope) c
      | _ => false) && ce.e (compPl p scope) elt && (t.ixs.all fun i => (own.map (·.2)).contains i) && !isSetE iter
  | _ => false
def ckCall (T : Tab) (k : Nat) (ds : List D) (ca : CK) (nl : Bool) (p : Pl) : Expr → Bool
  | .Call (.Name x _) as [] _ => (match T.F[k]? with
    | some f => decide (f.x = x) && glB p.sc x && !(x == ("__debug__" : Str)) && Nat.ble ds.length f.ds.length && Nat.ble ds.length f.ps.length && Nat.ble f.ds.length f.ps.length && sameL ds (f.ds.drop (f.ds.length - ds.length)) && (match as with
      | [] => nl
      | _ => noStars as && ca.a p as)
    | none => false)
  | _ => false
def kVar (N : List Str) (i : Nat) (p : Pl) : Expr → Bool
  | .Name y _ => decide (N[i]? = some y) && visB p.sc y && notDbg y
  | _ => false
def glD (T : Tab) (y : Str) (d : D) : Bool := (match T.G.lookup y with
  | some d' => same d d'
  | none => false) || (match d with
  | .ty n => T.B.contains y && tyNames.contains n && decide (y = (n : Str))
  | _ => false)
def kGl (T : Tab) (y : Str) (d : D) (p : Pl) : Expr → Bool
  | .Name z _ => decide (z = y) && glB p.sc y && notDbg y && glD T y d
  | _ => false
def kLit (d : D) (_ : Pl) : Expr → Bool
  | .Constant c _ _ => litB d c
  | _ => false
def kBin (o : Bop) (a b : CK) (p : Pl) : Expr → Bool
  | .BinOp l op r _ => decide (op = bopOf o) && a.e p l && b.e p r
  | _ => false
def kNeg (a : CK) (p : Pl) : Expr → Bool
  | .UnaryOp .USub l _ => a.e p l
  | _ => false
def kNot (f : Expr → Bool) : Expr → Bool
  | .UnaryOp .Not l _ => f l
  | _ => false
def kCmp (o : Cop) (a b : CK) (p : Pl) : Expr → Bool
  | .Compare l [op] [r] _ => decide (op = copOf o) && !behindInMarks (copOf o) r && a.e p l && b.e p r
  | _ => false
def kChn (o o' : Cop) (a b c : CK) (p : Pl) : Expr → Bool
  | .Compare l [op, op'] [r, s] _ => decide (op = copOf o) && decide (op' = copOf o') && !lastMarks [copOf o, copOf o'] [r, s] && a.e p l && b.e p r && c.e p s
  | _ => false
def kBool (op : BoolOp) (fa fb : Expr → Bool) : Expr → Bool
  | .BoolOp op' (l :: r :: rest) pos => decide (op' = op) && fa l && (match rest with
    | [] => fb r
    | x :: xs => fb (.BoolOp op (r :: x :: xs) pos))
  | _ => false
def kIte (c a b : CK) (p : Pl) : Expr → Bool
  | .IfExp x y z _ => c.t p x && a.e p y && b.e p z
  | _ => false
def kBi (T : Tab) (b : Bi) (as : CK) (p : Pl) : Expr → Bool
  | .Call (.Name y _) (l :: ls) [] _ => decide (y = biName b) && freeB T p y && noStars (l :: ls) && as.a p (l :: ls)
  | _ => false
def kBiq (T : Tab) (b : Bi) (a : CK) (p : Pl) : Expr → Bool
  | .Call (.Name y _) [l] [] _ => decide (y = biName b) && freeB T p y && !isStar l && a.q p l
  | _ => false
def kIx (a b : CK) (p : Pl) : Expr → Bool
  | .Subscript l r _ => !isSlice r && a.e p l && b.e p r
  | _ => false
def kSl (a lo hi : CK) (p : Pl) : Expr → Bool
  | .Subscript l (.Slice u v none _) _ => a.e p l && lo.o p u && hi.o p v
  | _ => false
def kSrev (a : CK) (p : Pl) : Expr → Bool
  | .Subscript l (.Slice none none (some (.UnaryOp .USub (.Constant (.int i) _ _) _)) _) _ => decide (i = 1) && a.e p l
  | _ => false
def kTup (as : CK) (p : Pl) : Expr → Bool
  | .Tuple es _ _ => as.a p es
  | _ => false
def kLst (as : CK) (p : Pl) : Expr → Bool
  | .List es _ => as.a p es
  | _ => false
def kNilA (_ : Pl) : List Expr → Bool
  | [] => true
  | _ => false
def kNilO (_ : Pl) : Option Expr → Bool
  | none => true
  | _ => false
def kCons (a as : CK) (p : Pl) : List Expr → Bool
  | l :: ls => !isStar l && a.e p l && as.a p ls
  | _ => false
def kStar (a as : CK) (p : Pl) : List Expr → Bool
  | .Starred l _ :: ls => a.e p l && as.a p ls
  | _ => false
def kRg1 (T : Tab) (a : CK) (p : Pl) (_ : Expr) : Expr → Bool
  | .Call (.Name y _) [l] [] _ => decide (y = "range") && freeB T p y && !isStar l && a.e p l
  | _ => false
def kRg2 (T : Tab) (a b : CK) (p : Pl) (_ : Expr) : Expr → Bool
  | .Call (.Name y _) [l, r] [] _ => decide (y = "range") && freeB T p y && !isStar l && !isStar r && a.e p l && b.e p r
  | _ => false
def kZip (T : Tab) (a b : CK) (p : Pl) (tg : Expr) : Expr → Bool
  | .Call (.Name y _) [l, r] [] _ => isTupE tg && decide (y = "zip") && freeB T p y && !isStar l && !isStar r && a.e p l && b.e p r
  | _ => false
def kEnum (T : Tab) (a : CK) (p : Pl) (tg : Expr) : Expr → Bool
  | .Call (.Name y _) [l] [] _ => isTupE tg && decide (y = "enumerate") && freeB T p y && !isStar l && a.e p l
  | _ => false
def ck (T : Tab) (N : List Str) : E → CK
  | .var i => { e := kVar N i }
  | .gl y d => { e := kGl T y d }
  | .lit d => { e := kLit d }
  | .bin o a b => { e := kBin o (ck T N a) (ck T N b) }
  | .neg a => { e := kNeg (ck T N a) }
  | .not a => { e := fun p => kNot ((ck T N a).e p), t := fun p => kNot ((ck T N a).t p) }
  | .cmp o a b => { e := kCmp o (ck T N a) (ck T N b), t := kCmp o (ck T N a) (ck T N b) }
  | .chn o o' a b c => { e := kChn o o' (ck T N a) (ck T N b) (ck T N c), t := kChn o o' (ck T N a) (ck T N b) (ck T N c) }
  | .and a b => { e := fun p => kBool .And ((ck T N a).e p) ((ck T N b).e p), t := fun p => kBool .And ((ck T N a).t p) ((ck T N b).t p) }
  | .or a b => { e := fun p => kBool .Or ((ck T N a).e p) ((ck T N b).e p), t := fun p => kBool .Or ((ck T N a).t p) ((ck T N b).t p) }
  | .ite c a b => { e := kIte (ck T N c) (ck T N a) (ck T N b), t := noE }
  | .call _ k as ds => { e := ckCall T k ds (ck T N as) as.isNil }
  | .bi b as => { e := kBi T b (ck T N as) }
  | .biq b a => { e := kBiq T b (ck T N a) }
  | .ix a b => { e := kIx (ck T N a) (ck T N b) }
  | .sl a lo hi => { e := kSl (ck T N a) (ck T N lo) (ck T N hi) }
  | .srev a => { e := kSrev (ck T N a) }
  | .tup as => { e := kTup (ck T N as) }
  | .lst as => { e := kLst (ck T N as) }
  | .comp own t it c e => { e := ckComp N own t (ck T N it) (ck T N c) (ck T N e) c.isNil }
  | .nil => { e := noE, a := kNilA, o := kNilO }
  | .cons a as => { e := noE, a := kCons (ck T N a) (ck T N as) }
  | .star a as => { e := noE, a := kStar (ck T N a) (ck T N as) }
  | .seq a => { e := noE, i := fun p _ x => (ck T N a).q p x }
  | .range1 a => { e := noE, i := kRg1 T (ck T N a) }
  | .range2 a b => { e := noE, i := kRg2 T (ck T N a) (ck T N b) }
  | .range3 _ _ _ => { e := noE }
  | .zip a b => { e := noE, i := kZip T (ck T N a) (ck T N b) }
  | .enum a => { e := noE, i := kEnum T (ck T N a) }
  | .rev _ => { e := fun _ _ => true, t := fun _ _ => true, a := fun _ _ => true, o := fun _ _ => true, q := fun _ _ => true, i := fun _ _ _ => true }

/-! ### statements -/
/-- what swappedStores answers where the block is a function's; none: it refuses -/
def swO (sc : Scope) (ts vs : List Expr) : Option (Option (List Str)) :=
  if !(ts.length == 2 || ts.length == 3) || vs.length != ts.length then some none
  else if vs.any isStar then some none
  else
    let line := (ts.head?.map (·.pos.line)).getD 0
    let names := ts.filterMap fun
      | .Name id pos => if sc.names.lookup id == some .local && pos.line == line then some id else none
      | _ => none
    if names.length != ts.length || names.eraseDups.length != names.length then some none
    else if vs.all (foldedForSure 8) then some none
    else if vs.all (constantsAlone 8) then none
    else some (some names)
theorem swO_ok {env : Env} {ts vs : List Expr} {k k2 : Nat} {q q2 : Pos} {r : Option (List Str)} (hk : env.blockKind = .function) (h : swO env.scope ts vs = some r) : swappedStores [.Tuple ts k q] (.Tuple vs k2 q2) env = pure r := by
  unfold swO at h
  unfold swappedStores
  have e3 : (env.blockKind != ScopeKind.function) = false := by rw [hk]; rfl
  dsimp only at h ⊢
  rw [e3, Bool.or_false]
  split at h
  · rename_i c; cases h; exact (if_pos c).trans rfl
  · rename_i c
    refine (if_neg c).trans ?_
    split at h
    · rename_i c
      cases h
      exact (if_pos ((congrArg (List.any vs) (funext fun x => by cases x <;> rfl)).trans c)).trans rfl
    · rename_i c
      refine (if_neg fun z => c ((congrArg (List.any vs) (funext fun x => by cases x <;> rfl)).trans z)).trans ?_
      split at h
      · rename_i c
        cases h
        exact (if_pos c).trans rfl
      · rename_i c
        refine (if_neg c).trans ?_
        split at h
        · rename_i c; cases h; exact (if_pos c).trans rfl
        · rename_i c
          refine (if_neg c).trans ?_
          split at h
          · cases h
          · rename_i c; cases h; exact (if_neg c).trans rfl
def isL (p : Pl) (N : List Str) (i : Nat) (x : Str) : Bool := decide (N[i]? = some x) && (kind? p.sc x == some .local)
/-- a comprehension is not assigned on its line -/
def plainV (e : Expr) : Bool := !isCompE e
def isAny : E → Bool
  | .rev _ => true
  | _ => false
def kNilS (_ : Pl) : List Stmt → Bool
  | [] => true
  | _ => false
def kSeq (f : Stmt → Bool) (g : List Stmt → Bool) : List Stmt → Bool
  | l :: ls => f l && g ls
  | _ => false
def kSet (N : List Str) (i : Nat) (e : CK) (p : Pl) : Stmt → Bool
  | .Assign [.Name y _] v _ => decide (N[i]? = some y) && locB p y && e.e p v && plainV v
  | _ => false
def kAsg (N : List Str) (t : T) (e : CK) (p : Pl) : Stmt → Bool
  | .Assign [.Tuple es k q] v _ => ckT N p t (.Tuple es k q) && e.e p v && (match v with
    | .Tuple vs _ _ => decide (swO p.sc es vs = some none)
    | _ => true)
  | _ => false
def kPar (N : List Str) (is : List Nat) (as : CK) (p : Pl) : Stmt → Bool
  | .Assign [.Tuple [.Name x px, .Name y py] _ _] (.Tuple [a, b] _ _) _ => (match is with
    | [i, j] => isL p N i x && isL p N j y && !Nat.beq i j && decide (swO p.sc [.Name x px, .Name y py] [a, b] = some (some [x, y])) && as.a p [a, b]
    | _ => false)
  | .Assign [.Tuple [.Name x px, .Name y py, .Name z pz] _ _] (.Tuple [a, b, c] _ _) _ => (match is with
    | [i, j, l] => isL p N i x && isL p N j y && isL p N l z && !Nat.beq i j && !Nat.beq i l && !Nat.beq j l && decide (swO p.sc [.Name x px, .Name y py, .Name z pz] [a, b, c] = some (some [x, y, z])) && as.a p [a, b, c]
    | _ => false)
  | _ => false
/-- name = [..] on one line: stored before the block ends -/
def kSetC (N : List Str) (i : Nat) (g : Expr → Bool) (p : Pl) : Stmt → Bool
  | .Assign [.Name y py] (.ListComp elt gs scope pos) _ => isL p N i y && (py.line == pos.line) && !(scope.names.any fun (n, k) => n == y && (k == .local || k == .cell)) && g (.ListComp elt gs scope pos)
  | _ => false
def kSub (o i v : CK) (p : Pl) : Stmt → Bool
  | .Assign [.Subscript l r _] e _ => o.e p l && i.e p r && v.e p e && plainV e && !isSlice r
  | _ => false
def kAug (N : List Str) (i : Nat) (o : Bop) (e : CK) (p : Pl) : Stmt → Bool
  | .AugAssign (.Name y _) op v _ => decide (N[i]? = some y) && locB p y && decide (op = bopOf o) && (decide (o = .add) || decide (o = .sub)) && e.e p v
  | _ => false
def kDrop (e : CK) (p : Pl) : Stmt → Bool
  | .Expr v _ => e.e p v && plainV v
  | _ => false
def kIf (c : CK) (a b : Pl → List Stmt → Bool) (p : Pl) : Stmt → Bool
  | .If t u v _ => c.t p t && a p u && b p v
  | _ => false
def kWhl (c : CK) (b : Pl → List Stmt → Bool) (p : Pl) : Stmt → Bool
  | .While t u [] _ => c.t p t && b p u
  | _ => false
def kFor (N : List Str) (t : T) (it : CK) (b : Pl → List Stmt → Bool) (p : Pl) : Stmt → Bool
  | .For tg iter u [] _ => it.i p tg iter && ckT N p t tg && b p u && !isSetE iter
  | _ => false
def kRet (e : CK) (p : Pl) : Stmt → Bool
  | .Return (some v) _ => e.e p v
  | _ => false
def kRetN (_ : Pl) : Stmt → Bool
  | .Return none _ => true
  | _ => false
def kBrk (_ : Pl) : Stmt → Bool
  | .Break _ => true
  | _ => false
def kCont (_ : Pl) : Stmt → Bool
  | .Continue _ => true
  | _ => false
def kPass (_ : Pl) : Stmt → Bool
  | .Pass _ => true
  | _ => false
def kSetX (T : Tab) (N : List Str) (i : Nat) (p : Pl) (x : Stmt) : E → Bool
  | .comp own t it c el => kSetC N i (ckComp N own t (ck T N it) (ck T N c) (ck T N el) c.isNil p) p x
  | _ => false
structure CS where
  one : Pl → Stmt → Bool := fun _ _ => false
  all : Pl → List Stmt → Bool := fun _ _ => false
def ckS (T : Tab) (N : List Str) : S → CS
  | .nil => { all := kNilS }
  | .seq s r => { all := fun p => kSeq ((ckS T N s).one p) ((ckS T N r).all p) }
  | .set i e => { one := fun p x => kSet N i (ck T N e) p x || kSetX T N i p x e }
  | .asg t e => { one := kAsg N t (ck T N e) }
  | .par is as => { one := kPar N is (ck T N as) }
  | .sub o i v => { one := kSub (ck T N o) (ck T N i) (ck T N v) }
  | .aug i o e => { one := kAug N i o (ck T N e) }
  | .drop e => { one := fun p x => isAny e || kDrop (ck T N e) p x }
  | .ite c a b => { one := kIf (ck T N c) (ckS T N a).all (ckS T N b).all }
  | .whl c b => { one := kWhl (ck T N c) (ckS T N b).all }
  | .for t it b => { one := kFor N t (ck T N it) (ckS T N b).all }
  | .ret e => { one := kRet (ck T N e) }
  | .retN => { one := kRetN }
  | .brk => { one := kBrk }
  | .cont => { one := kCont }
  | .pass => { one := kPass }
  | .rais _ _ _ => {}
end Ev
set_option Elab.async false
set_option linter.all false
set_option maxRecDepth 100000
/-! EvN: what is checked is what runs: expressions. -/
namespace Ev
open PySem PySem.Spec PyProof.Rows L2

structure Cxt (T : Tab) (N : List Str) (Ω : Wd) (fs : Fs) (p : Pl) (X : Cx) (W : WX) : Prop where
  hK : X.K = Ω.K
  hN : X.N = N
  nd : N.Nodup
  sc : X.env.scope = p.sc
  own : ∀ x, p.own x = true → X.fn x = true
  calm : X.calm = true
  gd : X.A.guards = some []
  un : X.A.units + 64 < cLine
  tk : Takes X W
  glob : ∀ x d, T.G.lookup x = some d → ∃ v u, X.mg x = some u ∧ RelV v u ∧ ∀ A H, RV Ω A H v d
  free : ∀ x, T.B.contains x = true → X.mg x = none
  fn : ∀ k fe, T.F[k]? = some fe → ∃ lv, Room lv X.A ∧ FnR X Ω lv fe.x fe.ps fe.ds (fs k)

section
variable {T : Tab} {N : List Str} {Ω : Wd} {fs : Fs} {Wn : Nat} {p : Pl} {X : Cx} {W : WX}
theorem Cxt.blk (C : Cxt T N Ω fs p X W) (s : Shared) (H : Hp) (scope : Scope) (Cc : Addr) (cl : List (Str × Addr)) (fp : List Addr) :
    Cxt T N Ω fs (compPl p scope) (X.blk s H scope (compEnvC scope cl Cc X.env) fp) (fun _ _ _ _ => False) where
  hK := C.hK
  hN := C.hN
  nd := C.nd
  sc := by
    show relabel scope X.env = relS scope p.sc
    rw [← C.sc]; rfl
  own := fun x h => h
  calm := C.calm
  gd := C.gd
  un := C.un
  tk := fun u s' ⟨_, _, _, _, _, _, _, _, _, _, _, _, _, _, _, _, w⟩ => w.elim
  glob := C.glob
  free := C.free
  fn := fun k fe h => by
    obtain ⟨lv, r, ⟨e, l⟩⟩ := C.fn k fe h
    exact ⟨lv, r, ⟨e, l⟩⟩

/-! ### small facts -/
theorem Cxt.vis (C : Cxt T N Ω fs p X W) {x : Str} (h : visB p.sc x = true) : Vis X.env.scope x := by
  rw [C.sc]
  unfold visB kind? at h
  split at h
  · rename_i e; exact .inl e
  · rename_i e; exact .inr (.inl e)
  · rename_i e; exact .inr (.inr e)
  · cases h
theorem Cxt.loc (C : Cxt T N Ω fs p X W) {x : Str} (h : locB p x = true) : Loc X.env.scope x ∧ (X.fn x = true ∨ X.env.scope.names.lookup x = some .local) := by
  rw [C.sc]
  unfold locB kind? at h
  split at h
  · rename_i e; exact ⟨.inl e, .inr e⟩
  · rename_i e; exact ⟨.inr e, .inl (C.own x h)⟩
  · cases h
theorem Cxt.gl (C : Cxt T N Ω fs p X W) {x : Str} (h : glB p.sc x = true) : Gl X x := by
  show X.env.scope.names.lookup x = some .globalImplicit
  rw [C.sc]
  unfold glB kind? at h
  split at h
  · assumption
  · cases h
theorem notDbg_ok {x : Str} (h : notDbg x = true) : (x == ("__debug__" : Str)) = false ∧ (x == ("__classdict__" : Str)) = false := by
  unfold notDbg at h
  simpa only [Bool.and_eq_true, Bool.not_eq_true'] using h
theorem starEach_ns {e : Expr} {es : List Expr} {env : Env} (h : isStar e = false) : starEach (e :: es) env = (false, eval e env) :: starEach es env := by
  cases e <;> first | rfl | cases h
theorem any_ns {pos : Pos} {env : Env} : ∀ {es : List Expr}, noStars es = true → (backTo pos (starEach es env)).any (·.1) = false
  | [], _ => rfl
  | e :: es, h => by
    unfold noStars at h
    simp only [List.all_cons, Bool.and_eq_true, Bool.not_eq_true'] at h
    rw [starEach_ns h.1]
    show ((false, _) :: backTo pos (starEach es env)).any (·.1) = false
    rw [List.any_cons, any_ns (es := es) h.2]
    rfl
theorem nost {e : Expr} {es : List Expr} {pos : Pos} (h : noStars (e :: es) = true) : NoSt X e es pos := by
  have h' := h
  unfold noStars at h
  simp only [List.all_cons, Bool.and_eq_true, Bool.not_eq_true'] at h
  exact ⟨starEach_ns h.1, any_ns h.2⟩
theorem plainT_ok {e : Expr} {env : Env} (h : plainT e = true) (whole : Sem Value) : isTrue e env whole = (do let v ← whole; standAt e.pos; holding [v] (truthy v)) := by
  cases e <;> first | rfl | (cases h; done) | skip
  rename_i op _ _
  cases op <;> first | rfl | cases h
theorem plainIx {r : Expr} (h : isSlice r = false) : PlainIx r := fun o i => by
  cases r <;> first | rfl | cases h
theorem noSet {iter : Expr} {env : Env} (h : isSetE iter = false) (x : Value) : foldedSetIterable iter env x = pure x := by
  cases iter <;> first | rfl | cases h
theorem boot_bi (b : Bi) : bootBuiltins (biName b) = some (biVal b) ∧ biName b ≠ "__name__" ∧ (biName b == ("__debug__" : Str)) = false := by
  cases b <;> exact ⟨by decide +kernel, by decide +kernel, by decide +kernel⟩
theorem Cxt.bin (C : Cxt T N Ω fs p X W) {b : Bi} (h : freeB T p (biName b) = true) : BiN X b (biName b) := by
  unfold freeB at h
  rw [Bool.and_eq_true] at h
  obtain ⟨h1, h2, h3⟩ := boot_bi b
  exact ⟨C.gl h.1, C.free _ h.2, h1, h2, h3⟩
theorem Cxt.rgn (C : Cxt T N Ω fs p X W) {x : Str} (h : freeB T p x = true) : RgN X x := by
  unfold freeB at h
  rw [Bool.and_eq_true] at h
  exact ⟨C.gl h.1, C.free _ h.2⟩
theorem pe_bad {e : Expr} {f : TE} (h : ∀ σ H Q, ¬ f σ H Q) : PE X e f := ⟨fun _ _ σ H Q _ q => (h σ H Q q).elim⟩

/-! ### targets -/
theorem ae_one {e : Expr} {env : Env} (h : isStar e = false) (es : List Expr) : assignEach (e :: es) env = (false, assign e env) :: assignEach es env := by
  cases e <;> first | rfl | cases h
theorem ckTs_len {ts : Ev.T} : ∀ {es : List Expr}, ckTs N p ts es = true → (assignEach es X.env).length = ts.count ∧ (assignEach es X.env).findIdx? (·.1) = none := by
  induction ts with
  | nm i => intro es h; cases es <;> simp [ckTs] at h
  | tp ts ih => intro es h; cases es <;> simp [ckTs] at h
  | nil =>
    intro es h
    cases es with
    | nil => exact ⟨rfl, rfl⟩
    | cons e es => simp [ckTs] at h
  | cons t ts _ ih =>
    intro es h
    cases es with
    | nil => simp [ckTs] at h
    | cons e es =>
      simp only [ckTs, Bool.and_eq_true, Bool.not_eq_true'] at h
      obtain ⟨h1, h2⟩ := ih h.2
      rw [ae_one h.1.1]
      refine ⟨by simp [h1, T.count], ?_⟩
      rw [List.findIdx?_cons, h2]
      rfl
theorem ckT_ok (C : Cxt T N Ω fs p X W) (t : Ev.T) : (∀ e, ckT N p t e = true → PG X e (tT Ω t)) ∧ (∀ es, ckTs N p t es = true → PGs X es (tTs Ω t)) := by
  induction t with
  | nm i =>
    refine ⟨fun e h => ?_, fun es h => by cases es <;> simp [ckTs] at h⟩
    cases e <;> try (simp [ckT] at h; done)
    simp only [ckT, Bool.and_eq_true, decide_eq_true_eq] at h
    obtain ⟨h1, h2⟩ := C.loc h.2
    exact s_tnm (C.hN ▸ C.nd) (by rw [C.hN]; exact h.1) h1 h2
  | tp ts ih =>
    refine ⟨fun e h => ?_, fun es h => by cases es <;> simp [ckTs] at h⟩
    cases e <;> try (simp [ckT] at h; done)
    simp only [ckT] at h
    obtain ⟨l1, l2⟩ := ckTs_len (X := X) h
    exact s_ttp C.hK C.calm (ih.2 _ h) l1 l2
  | nil =>
    refine ⟨fun e h => by cases e <;> simp [ckT] at h, fun es h => ?_⟩
    cases es with
    | nil => exact s_tnil
    | cons e es => simp [ckTs] at h
  | cons t ts iht ihs =>
    refine ⟨fun e h => by cases e <;> simp [ckT] at h, fun es h => ?_⟩
    cases es with
    | nil => simp [ckTs] at h
    | cons e es =>
      simp only [ckTs, Bool.and_eq_true, Bool.not_eq_true'] at h
      exact s_tcons (iht.1 _ h.1.2) (ihs.2 _ h.2) (by rw [ae_one h.1.1]; rfl)

/-! ### expressions -/
/-- what is checked of e holds -/
structure Snd (T : Tab) (N : List Str) (Ω : Wd) (fs : Fs) (Wn : Nat) (E0 : E) : Prop where
  e : ∀ {p X W x}, Cxt T N Ω fs p X W → (ck T N E0).e p x = true → PE X x (tE Ω W (ev fs Wn E0).v)
  t : ∀ {p X W x}, Cxt T N Ω fs p X W → (ck T N E0).t p x = true → PT X x (tB' Ω W (tru (ev fs Wn E0).v))
  w : ∀ {p X W op xs pos}, Cxt T N Ω fs p X W → (ck T N E0).t p (.BoolOp op xs pos) = true → PW X (.BoolOp op xs pos) (tB' Ω W (tru (ev fs Wn E0).v))
  a : ∀ {p X W xs}, Cxt T N Ω fs p X W → (ck T N E0).a p xs = true → PA X xs (tA Ω W (ev fs Wn E0).s)
  o : ∀ {p X W x}, Cxt T N Ω fs p X W → (ck T N E0).o p x = true → PO X x (tO' Ω W (ev fs Wn E0).o)
  q : ∀ {p X W x}, Cxt T N Ω fs p X W → (ck T N E0).q p x = true → PE X x (tQ Ω W (ev fs Wn E0).q)
  i : ∀ {p X W tg x}, Cxt T N Ω fs p X W → (ck T N E0).i p tg x = true → PI X tg x (tI Ω W (ev fs Wn E0).i)
def stdO (f : Pl → Expr → Bool) : Pl → Option Expr → Bool := fun p x => match x with
  | some x => f p x
  | none => false
/-- a value; as a test and as a sequence it is read by its value -/
theorem Snd.val {e : E} (he : ∀ {p X W x}, Cxt T N Ω fs p X W → (ck T N e).e p x = true → PE X x (tE Ω W (ev fs Wn e).v))
    (h1 : (ck T N e).t = fun p x => plainT x && (ck T N e).e p x) (h2 : (ck T N e).a = fun _ _ => false) (h3 : (ck T N e).o = stdO (ck T N e).e)
    (hq : ((ck T N e).q = (ck T N e).e ∧ (ev fs Wn e).q = qV (ev fs Wn e).v) ∨ ∀ {p X W x}, Cxt T N Ω fs p X W → (ck T N e).q p x = true → PE X x (tQ Ω W (ev fs Wn e).q)) (h5 : (ck T N e).i = fun _ _ _ => false)
    (h6 : (ev fs Wn e).o = fun σ m => ((ev fs Wn e).v σ m).bind fun x m => ofO (partV x) m) : Snd T N Ω fs Wn e where
  e := he
  t := fun C h => by
    rw [h1, Bool.and_eq_true] at h
    exact s_truth C.hK (he C h.2) (plainT_ok h.1)
  w := fun C h => by
    rw [h1, Bool.and_eq_true] at h
    cases h.1
  a := fun C h => by rw [h2] at h; cases h
  o := fun {p X W x} C h => by
    rw [h3] at h
    cases x with
    | none => cases h
    | some x => rw [h6]; exact s_oS (he C h)
  q := fun C h => by
    rcases hq with ⟨q1, q2⟩ | hq
    · rw [q1] at h; rw [q2]; exact s_qv (he C h)
    · exact hq C h
  i := fun C h => by rw [h5] at h; cases h
/-- arguments alone -/
theorem Snd.args {e : E} (ha : ∀ {p X W xs}, Cxt T N Ω fs p X W → (ck T N e).a p xs = true → PA X xs (tA Ω W (ev fs Wn e).s)) (h0 : (ck T N e).e = noE) (h1 : (ck T N e).t = fun p x => plainT x && (ck T N e).e p x)
    (h3 : ∀ {p X W x}, Cxt T N Ω fs p X W → (ck T N e).o p x = true → PO X x (tO' Ω W (ev fs Wn e).o)) (h4 : (ck T N e).q = (ck T N e).e) (h5 : (ck T N e).i = fun _ _ _ => false) : Snd T N Ω fs Wn e where
  e := fun C h => by rw [h0] at h; cases h
  t := fun C h => by rw [h1, h0, Bool.and_eq_true] at h; cases h.2
  w := fun C h => by rw [h1, h0, Bool.and_eq_true] at h; cases h.2
  a := ha
  o := h3
  q := fun C h => by rw [h4, h0] at h; cases h
  i := fun C h => by rw [h5] at h; cases h
theorem no_o {e : E} (h0 : (ck T N e).o = stdO noE) {p X W x} (C : Cxt T N Ω fs p X W) (h : (ck T N e).o p x = true) : PO X x (tO' Ω W (ev fs Wn e).o) := by
  rw [h0] at h
  cases x <;> cases h
/-- what a loop walks, alone -/
theorem Snd.iter {e : E} (hi : ∀ {p X W tg x}, Cxt T N Ω fs p X W → (ck T N e).i p tg x = true → PI X tg x (tI Ω W (ev fs Wn e).i)) (h0 : (ck T N e).e = noE) (h1 : (ck T N e).t = fun p x => plainT x && (ck T N e).e p x) (h2 : (ck T N e).a = fun _ _ => false)
    (h3 : (ck T N e).o = stdO (ck T N e).e) (h4 : (ck T N e).q = (ck T N e).e) : Snd T N Ω fs Wn e where
  e := fun C h => by rw [h0] at h; cases h
  t := fun C h => by rw [h1, h0, Bool.and_eq_true] at h; cases h.2
  w := fun C h => by rw [h1, h0, Bool.and_eq_true] at h; cases h.2
  a := fun C h => by rw [h2] at h; cases h
  o := fun {p X W x} C h => by rw [h3, h0] at h; cases x <;> cases h
  q := fun C h => by rw [h4, h0] at h; cases h
  i := hi
/-- a name that stands for d -/
theorem gl_ok {y : Str} {d : D} (C : Cxt T N Ω fs p X W) {pos : Pos} (h : kGl T y d p (.Name y pos) = true) : PE X (.Name y pos) (tE Ω W fun _ m => .ok d m) := by
  simp only [kGl, Bool.and_eq_true, decide_eq_true_eq] at h
  obtain ⟨⟨⟨_, hg⟩, hd⟩, h⟩ := h
  have hg := C.gl hg
  have hd := (notDbg_ok hd).1
  unfold glD at h
  rw [Bool.or_eq_true] at h
  rcases h with h | h
  · split at h
    · rename_i d' e
      cases same_ok h
      obtain ⟨v, u, hm, r, hr⟩ := C.glob _ _ e
      exact s_lit (pe_glob hg hm r hd) hr
    · cases h
  · split at h
    · rename_i n
      simp only [Bool.and_eq_true, decide_eq_true_eq] at h
      obtain ⟨⟨h1, h2⟩, h3⟩ := h
      subst h3
      have hm := C.free _ h1
      have hb : bootBuiltins (n : Str) = some (.type n) ∧ (n : Str) ≠ "__name__" := by
        simp only [tyNames, List.contains_eq_mem, List.mem_cons, List.not_mem_nil, or_false, decide_eq_true_eq] at h2
        rcases h2 with rfl | rfl | rfl | rfl | rfl | rfl | rfl | rfl <;> exact ⟨by decide +kernel, by decide +kernel⟩
      exact s_lit (v := .ty n) (pe_bltn hg hm hb.1 rfl hb.2 hd) fun A H => .ty n
    · cases h
theorem lit_ok {d : D} {c : Const} {k : Nat} {pos : Pos} (h : litB d c = true) : PE X (.Constant c k pos) (tE Ω W fun _ m => .ok d m) := by
  unfold litB at h
  split at h
  · split at h
    · cases of_decide_eq_true h; exact s_lit pe_int fun _ _ => .int _
    · cases h
  · split at h
    · cases eq_of_beq h; exact s_lit pe_bl fun _ _ => .bl _
    · cases h
  · split at h
    · exact s_lit pe_non fun _ _ => .non
    · cases h
  · split at h
    · cases of_decide_eq_true h; exact s_lit pe_str fun _ _ => .str _
    · cases h
  · cases h
theorem bool_e {op : BoolOp} {fa fb : Sl → M → R D} {ka kb : Expr → Bool} {x : Expr} {k : (Sl → M → R D) → (Sl → M → R D) → Sl → M → R D} (ha : ∀ x, ka x = true → PE X x (tE Ω W fa)) (hb : ∀ x, kb x = true → PE X x (tE Ω W fb)) (h : kBool op ka kb x = true)
    (hk : ∀ {a b rest pos}, PE X a (tE Ω W fa) → PE X (.BoolOp op (b :: rest) pos) (tE Ω W fb) → PE X (.BoolOp op (a :: b :: rest) pos) (tE Ω W (k fa fb))) : PE X x (tE Ω W (k fa fb)) := by
  unfold kBool at h
  split at h
  · rename_i op' l r rest pos
    simp only [Bool.and_eq_true, decide_eq_true_eq] at h
    obtain ⟨⟨rfl, h1⟩, h2⟩ := h
    split at h2
    · exact hk (ha _ h1) (pe_one (hb _ h2))
    · exact hk (ha _ h1) (hb _ h2)
  · cases h
theorem bool_w {op : BoolOp} {fa fb : Sl → M → R D} {ka kb : Expr → Bool} {x : Expr} {k : (Sl → M → R D) → (Sl → M → R D) → Sl → M → R D} (ha : ∀ x, ka x = true → PT X x (tB' Ω W (tru fa))) (hb : ∀ x, kb x = true → PT X x (tB' Ω W (tru fb))) (hw : ∀ xs pos, kb (.BoolOp op xs pos) = true → PW X (.BoolOp op xs pos) (tB' Ω W (tru fb)))
    (h1w : ∀ {a pos}, PT X a (tB' Ω W (tru fb)) → PW X (.BoolOp op [a] pos) (tB' Ω W (tru fb))) (h : kBool op ka kb x = true)
    (hk : ∀ {a b rest pos}, PT X a (tB' Ω W (tru fa)) → PW X (.BoolOp op (b :: rest) pos) (tB' Ω W (tru fb)) → PW X (.BoolOp op (a :: b :: rest) pos) (tB' Ω W (tru (k fa fb)))) : PW X x (tB' Ω W (tru (k fa fb))) := by
  unfold kBool at h
  split at h
  · rename_i op' l r rest pos
    simp only [Bool.and_eq_true, decide_eq_true_eq] at h
    obtain ⟨⟨rfl, h1⟩, h2⟩ := h
    split at h2
    · exact hk (ha _ h1) (h1w (hb _ h2))
    · exact hk (ha _ h1) (hw _ _ h2)
  · cases h
end
end Ev
set_option Elab.async false
set_option linter.all false
set_option maxRecDepth 100000
/-! EvO: all expressions. -/
namespace Ev
open PySem PySem.Spec PyProof.Rows L2
section
variable {T : Tab} {N : List Str} {Ω : Wd} {fs : Fs} {Wn : Nat} {p : Pl} {X : Cx} {W : WX}
theorem ns1 {e : Expr} {pos : Pos} (h : isStar e = false) : NoSt X e [] pos := nost (by unfold noStars; simp [h])
theorem ns2 {e f : Expr} {pos : Pos} (h : isStar e = false) (h2 : isStar f = false) : NoSt X e [f] pos := nost (by unfold noStars; simp [h, h2])
theorem isTup_ok {e : Expr} (h : isTupE e = true) : ∃ es k q, e = .Tuple es k q := by
  cases e <;> first | exact ⟨_, _, _, rfl⟩ | cases h
theorem call_ok {y : Str} {k : Nat} {as : E} {ds : List D} (ih : Snd T N Ω fs Wn as) {p X W x} (C : Cxt T N Ω fs p X W) (h : ckCall T k ds (ck T N as) as.isNil p x = true) :
    PE X x (tE Ω W (ev fs Wn (.call y k as ds)).v) := by
  unfold ckCall at h
  split at h
  · rename_i z pz es pos
    split at h
    · rename_i f hf
      simp only [Bool.and_eq_true, decide_eq_true_eq, Bool.not_eq_true'] at h
      obtain ⟨⟨⟨⟨⟨⟨⟨rfl, hg⟩, hd⟩, l1⟩, l2⟩, l3⟩, hs⟩, ha⟩ := h
      have l1 := Nat.le_of_ble_eq_true l1
      have l2 := Nat.le_of_ble_eq_true l2
      have l3 := Nat.le_of_ble_eq_true l3
      have es' := sameL_ok hs
      obtain ⟨lv, hr, F⟩ := C.fn k f hf
      have en : (f.ps.length - ds.length) + f.ds.length - f.ps.length = f.ds.length - ds.length := by omega
      split at ha
      · have r := s_call0 (W := W) (p := pz) (pos := pos) F hr C.gd (C.gl hg) C.tk (n := f.ps.length - ds.length) (by omega) (by omega) hd
        rw [en, ← es'] at r
        have e : as = .nil := by cases as <;> first | rfl | cases ha
        subst e
        exact r
      · rename_i hne
        obtain ⟨e1, es1, rfl⟩ : ∃ e1 es1, es = e1 :: es1 := by
          cases es with
          | nil => exact absurd rfl hne
          | cons a b => exact ⟨a, b, rfl⟩
        simp only [Bool.and_eq_true] at ha
        have r := s_call (W := W) (p := pz) (pos := pos) F hr C.gd (C.gl hg) C.tk (ih.a C ha.2) (n := f.ps.length - ds.length) (by omega) (by omega) hd (nost ha.1)
        rw [en, ← es'] at r
        exact r
    · cases h
  · cases h
theorem comp_parts {own : List (Str × Nat)} {t : Ev.T} {it c el : E} (ihi : Snd T N Ω fs Wn it) (ihc : Snd T N Ω fs Wn c) (ihe : Snd T N Ω fs Wn el) {p X W x} (C : Cxt T N Ω fs p X W) (h : ckComp N own t (ck T N it) (ck T N c) (ck T N el) c.isNil p x = true) :
    ∃ elt tg iter ifs scope pos, x = .ListComp elt [⟨tg, iter, ifs, 0⟩] scope pos ∧ PI X tg iter (tI Ω W (ev fs Wn it).i) ∧ BlkOk X.N X.env.scope scope own ∧
      CompP X Ω own tg ifs elt scope t (if c.isNil then none else some (ev fs Wn c).v) (ev fs Wn el).v ∧ ∀ x, foldedSetIterable iter X.env x = pure x := by
  unfold ckComp at h
  split at h
  · rename_i elt tg iter ifs scope pos
    simp only [Bool.and_eq_true, Bool.not_eq_true'] at h
    obtain ⟨⟨⟨⟨⟨⟨h1, h2⟩, h3⟩, h4⟩, h5⟩, h6⟩, h7⟩ := h
    refine ⟨elt, tg, iter, ifs, scope, pos, rfl, ihi.i C h1, by rw [C.hN, C.sc]; exact blkOk_by h2, ⟨fun s H Cc cl fp => (ckT_ok (C.blk s H scope Cc cl fp) t).1 _ h3, ?_, fun s H Cc cl fp => ihe.e (C.blk s H scope Cc cl fp) h5, fun i hi => ?_⟩, noSet h7⟩
    · split at h4
      · rw [h4]; exact rfl
      · rename_i c0
        simp only [Bool.and_eq_true, Bool.not_eq_true'] at h4
        rw [h4.1]
        exact ⟨c0, rfl, fun s H Cc cl fp => ihc.t (C.blk s H scope Cc cl fp) h4.2⟩
      · cases h4
    · have := (List.all_eq_true.mp h6) i hi
      simpa using this
  · cases h
theorem sound_e : ∀ e : E, Snd T N Ω fs Wn e := by
  intro e
  induction e with
  | var i =>
    refine Snd.val (fun {p X W x} C h => ?_) rfl rfl rfl (.inl ⟨rfl, rfl⟩) rfl rfl
    replace h : kVar N i p x = true := h
    unfold kVar at h
    split at h
    · simp only [Bool.and_eq_true, decide_eq_true_eq] at h
      obtain ⟨⟨h1, h2⟩, h3⟩ := h
      have hd := notDbg_ok h3
      exact s_var (by rw [C.hN]; exact h1) (C.vis h2) hd.1 hd.2
    · cases h
  | gl y d =>
    refine Snd.val (fun {p X W x} C h => ?_) rfl rfl rfl (.inl ⟨rfl, rfl⟩) rfl rfl
    replace h : kGl T y d p x = true := h
    have h' := h
    unfold kGl at h'
    split at h'
    · rename_i z pos
      simp only [Bool.and_eq_true, decide_eq_true_eq] at h'
      obtain ⟨⟨⟨rfl, _⟩, _⟩, _⟩ := h'
      exact gl_ok C h
    · cases h'
  | lit d =>
    refine Snd.val (fun {p X W x} C h => ?_) rfl rfl rfl (.inl ⟨rfl, rfl⟩) rfl rfl
    replace h : kLit d p x = true := h
    unfold kLit at h
    split at h
    · exact lit_ok h
    · cases h
  | bin o a b iha ihb =>
    refine Snd.val (fun {p X W x} C h => ?_) rfl rfl rfl (.inl ⟨rfl, rfl⟩) rfl rfl
    replace h : kBin o (ck T N a) (ck T N b) p x = true := h
    unfold kBin at h
    split at h
    · simp only [Bool.and_eq_true, decide_eq_true_eq] at h
      obtain ⟨⟨rfl, h1⟩, h2⟩ := h
      exact s_binE C.hK o (iha.e C h1) (ihb.e C h2)
    · cases h
  | neg a iha =>
    refine Snd.val (fun {p X W x} C h => ?_) rfl rfl rfl (.inl ⟨rfl, rfl⟩) rfl rfl
    replace h : kNeg (ck T N a) p x = true := h
    unfold kNeg at h
    split at h
    · exact s_neg (iha.e C h)
    · cases h
  | not a iha =>
    exact {
      e := fun {p X W x} C h => by
        replace h : kNot ((ck T N a).e p) x = true := h
        unfold kNot at h
        split at h
        · exact s_not C.hK (iha.e C h)
        · cases h
      t := fun {p X W x} C h => by
        replace h : kNot ((ck T N a).t p) x = true := h
        unfold kNot at h
        split at h
        · exact s_notT (iha.t C h)
        · cases h
      w := fun {p X W op xs pos} C h => by cases (show false = true from h)
      a := fun C h => by cases (show false = true from h)
      o := fun {p X W x} C h => by
        cases x with
        | none => cases (show false = true from h)
        | some x =>
          refine s_oS ?_
          replace h : kNot ((ck T N a).e p) x = true := h
          unfold kNot at h
          split at h
          · exact s_not C.hK (iha.e C h)
          · cases h
      q := fun {p X W x} C h => by
        refine s_qv ?_
        replace h : kNot ((ck T N a).e p) x = true := h
        unfold kNot at h
        split at h
        · exact s_not C.hK (iha.e C h)
        · cases h
      i := fun C h => by cases (show false = true from h) }
  | cmp o a b iha ihb =>
    have he : ∀ {p X W x}, Cxt T N Ω fs p X W → kCmp o (ck T N a) (ck T N b) p x = true → PE X x (tE Ω W (cmpF o (ev fs Wn a).v (ev fs Wn b).v)) := fun {p X W x} C h => by
      unfold kCmp at h
      split at h
      · simp only [Bool.and_eq_true, decide_eq_true_eq, Bool.not_eq_true'] at h
        obtain ⟨⟨⟨rfl, h1⟩, h2⟩, h3⟩ := h
        exact s_cmpE C.hK C.un o h1 (iha.e C h2) (ihb.e C h3)
      · cases h
    exact {
      e := fun C h => he C h
      t := fun {p X W x} C h => by
        replace h : kCmp o (ck T N a) (ck T N b) p x = true := h
        unfold kCmp at h
        split at h
        · simp only [Bool.and_eq_true, decide_eq_true_eq, Bool.not_eq_true'] at h
          obtain ⟨⟨⟨rfl, h1⟩, h2⟩, h3⟩ := h
          exact s_cmpT C.hK C.un o h1 (iha.e C h2) (ihb.e C h3)
        · cases h
      w := fun {p X W op xs pos} C h => by cases (show false = true from h)
      a := fun C h => by cases (show false = true from h)
      o := fun {p X W x} C h => by
        cases x with
        | none => cases (show false = true from h)
        | some x => exact s_oS (he C h)
      q := fun C h => s_qv (he C h)
      i := fun C h => by cases (show false = true from h) }
  | chn o o' a b c iha ihb ihc =>
    have he : ∀ {p X W x}, Cxt T N Ω fs p X W → kChn o o' (ck T N a) (ck T N b) (ck T N c) p x = true → PE X x (tE Ω W (chnV o o' (ev fs Wn a).v (ev fs Wn b).v (ev fs Wn c).v)) := fun {p X W x} C h => by
      unfold kChn at h
      split at h
      · simp only [Bool.and_eq_true, decide_eq_true_eq, Bool.not_eq_true'] at h
        obtain ⟨⟨⟨⟨⟨rfl, rfl⟩, h1⟩, h2⟩, h3⟩, h4⟩ := h
        exact s_chn C.hK C.un o o' h1 (iha.e C h2) (ihb.e C h3) (ihc.e C h4)
      · cases h
    exact {
      e := fun C h => he C h
      t := fun {p X W x} C h => by
        replace h : kChn o o' (ck T N a) (ck T N b) (ck T N c) p x = true := h
        unfold kChn at h
        split at h
        · simp only [Bool.and_eq_true, decide_eq_true_eq, Bool.not_eq_true'] at h
          obtain ⟨⟨⟨⟨⟨rfl, rfl⟩, h1⟩, h2⟩, h3⟩, h4⟩ := h
          exact s_chnT C.hK C.un o o' h1 (iha.e C h2) (ihb.e C h3) (ihc.e C h4)
        · cases h
      w := fun {p X W op xs pos} C h => by cases (show false = true from h)
      a := fun C h => by cases (show false = true from h)
      o := fun {p X W x} C h => by
        cases x with
        | none => cases (show false = true from h)
        | some x => exact s_oS (he C h)
      q := fun C h => s_qv (he C h)
      i := fun C h => by cases (show false = true from h) }
  | and a b iha ihb =>
    have he : ∀ {p X W x}, Cxt T N Ω fs p X W → kBool .And ((ck T N a).e p) ((ck T N b).e p) x = true → PE X x (tE Ω W (andV (ev fs Wn a).v (ev fs Wn b).v)) := fun {p X W x} C h =>
      bool_e (fun x h => iha.e C h) (fun x h => ihb.e C h) h fun h1 h2 => s_and C.hK h1 h2
    have hw : ∀ {p X W x}, Cxt T N Ω fs p X W → kBool .And ((ck T N a).t p) ((ck T N b).t p) x = true → PW X x (tB' Ω W (tru (andV (ev fs Wn a).v (ev fs Wn b).v))) := fun {p X W x} C h =>
      bool_w (fun x h => iha.t C h) (fun x h => ihb.t C h) (fun xs pos h => ihb.w C h) (fun h => pw_and1 h) h fun h1 h2 => s_andT h1 h2
    exact {
      e := fun C h => he C h
      t := fun C h => (hw C h).pt
      w := fun C h => hw C h
      a := fun C h => by cases (show false = true from h)
      o := fun {p X W x} C h => by
        cases x with
        | none => cases (show false = true from h)
        | some x => exact s_oS (he C h)
      q := fun C h => s_qv (he C h)
      i := fun C h => by cases (show false = true from h) }
  | or a b iha ihb =>
    have he : ∀ {p X W x}, Cxt T N Ω fs p X W → kBool .Or ((ck T N a).e p) ((ck T N b).e p) x = true → PE X x (tE Ω W (orV (ev fs Wn a).v (ev fs Wn b).v)) := fun {p X W x} C h =>
      bool_e (fun x h => iha.e C h) (fun x h => ihb.e C h) h fun h1 h2 => s_or C.hK h1 h2
    have hw : ∀ {p X W x}, Cxt T N Ω fs p X W → kBool .Or ((ck T N a).t p) ((ck T N b).t p) x = true → PW X x (tB' Ω W (tru (orV (ev fs Wn a).v (ev fs Wn b).v))) := fun {p X W x} C h =>
      bool_w (fun x h => iha.t C h) (fun x h => ihb.t C h) (fun xs pos h => ihb.w C h) (fun h => pw_or1 h) h fun h1 h2 => s_orT h1 h2
    exact {
      e := fun C h => he C h
      t := fun C h => (hw C h).pt
      w := fun C h => hw C h
      a := fun C h => by cases (show false = true from h)
      o := fun {p X W x} C h => by
        cases x with
        | none => cases (show false = true from h)
        | some x => exact s_oS (he C h)
      q := fun C h => s_qv (he C h)
      i := fun C h => by cases (show false = true from h) }
  | ite c a b ihc iha ihb =>
    have he : ∀ {p X W x}, Cxt T N Ω fs p X W → kIte (ck T N c) (ck T N a) (ck T N b) p x = true → PE X x (tE Ω W (iteV (ev fs Wn c).v (ev fs Wn a).v (ev fs Wn b).v)) := fun {p X W x} C h => by
      unfold kIte at h
      split at h
      · simp only [Bool.and_eq_true] at h
        exact s_ite (ihc.t C h.1.1) (iha.e C h.1.2) (ihb.e C h.2)
      · cases h
    exact {
      e := fun C h => he C h
      t := fun C h => by cases (show false = true from h)
      w := fun C h => by cases (show false = true from h)
      a := fun C h => by cases (show false = true from h)
      o := fun {p X W x} C h => by
        cases x with
        | none => cases (show false = true from h)
        | some x => exact s_oS (he C h)
      q := fun C h => s_qv (he C h)
      i := fun C h => by cases (show false = true from h) }
  | call y k as ds ih => exact Snd.val (fun {p X W x} C h => call_ok ih C h) rfl rfl rfl (.inl ⟨rfl, rfl⟩) rfl rfl
  | bi b as ih =>
    refine Snd.val (fun {p X W x} C h => ?_) rfl rfl rfl (.inl ⟨rfl, rfl⟩) rfl rfl
    replace h : kBi T b (ck T N as) p x = true := h
    unfold kBi at h
    split at h
    · simp only [Bool.and_eq_true, decide_eq_true_eq] at h
      obtain ⟨⟨⟨rfl, h1⟩, h2⟩, h3⟩ := h
      exact s_bi C.hK C.calm C.gd C.un b (C.bin h1) (ih.a C h3) (nost h2)
    · cases h
  | biq b a ih =>
    refine Snd.val (fun {p X W x} C h => ?_) rfl rfl rfl (.inl ⟨rfl, rfl⟩) rfl rfl
    replace h : kBiq T b (ck T N a) p x = true := h
    unfold kBiq at h
    split at h
    · simp only [Bool.and_eq_true, decide_eq_true_eq, Bool.not_eq_true'] at h
      obtain ⟨⟨⟨rfl, h1⟩, h2⟩, h3⟩ := h
      exact s_biq C.hK C.calm b (C.bin h1) (ih.q C h3) (ns1 h2)
    · cases h
  | ix a b iha ihb =>
    refine Snd.val (fun {p X W x} C h => ?_) rfl rfl rfl (.inl ⟨rfl, rfl⟩) rfl rfl
    replace h : kIx (ck T N a) (ck T N b) p x = true := h
    unfold kIx at h
    split at h
    · simp only [Bool.and_eq_true, Bool.not_eq_true'] at h
      exact s_ix C.hK (iha.e C h.1.2) (ihb.e C h.2) (plainIx h.1.1)
    · cases h
  | sl a lo hi iha ihl ihh =>
    refine Snd.val (fun {p X W x} C h => ?_) rfl rfl rfl (.inl ⟨rfl, rfl⟩) rfl rfl
    replace h : kSl (ck T N a) (ck T N lo) (ck T N hi) p x = true := h
    unfold kSl at h
    split at h
    · simp only [Bool.and_eq_true] at h
      exact s_sl C.hK (iha.e C h.1.1) (ihl.o C h.1.2) (ihh.o C h.2)
    · cases h
  | srev a ih =>
    refine Snd.val (fun {p X W x} C h => ?_) rfl rfl rfl (.inl ⟨rfl, rfl⟩) rfl rfl
    replace h : kSrev (ck T N a) p x = true := h
    unfold kSrev at h
    split at h
    · simp only [Bool.and_eq_true, decide_eq_true_eq] at h
      obtain ⟨rfl, h⟩ := h
      exact s_srev C.hK (ih.e C h)
    · cases h
  | tup as ih =>
    refine Snd.val (fun {p X W x} C h => ?_) rfl rfl rfl (.inl ⟨rfl, rfl⟩) rfl rfl
    replace h : kTup (ck T N as) p x = true := h
    unfold kTup at h
    split at h
    · exact s_tup (ih.a C h)
    · cases h
  | lst as ih =>
    refine Snd.val (fun {p X W x} C h => ?_) rfl rfl rfl (.inr fun {p X W x} C h => ?_) rfl rfl
    · replace h : kLst (ck T N as) p x = true := h
      unfold kLst at h
      split at h
      · exact s_lst (ih.a C h)
      · cases h
    · replace h : kLst (ck T N as) p x = true := h
      unfold kLst at h
      split at h
      · exact s_qlst (ih.a C h)
      · cases h
  | comp own t it c el ihi ihc ihe =>
    refine Snd.val (fun {p X W x} C h => ?_) rfl rfl rfl (.inr fun {p X W x} C h => ?_) rfl rfl
    · obtain ⟨elt, tg, iter, ifs, scope, pos, rfl, h1, h2, h3, h4⟩ := comp_parts ihi ihc ihe C h
      exact s_comp C.calm (C.hN ▸ C.nd) h1 h2 h3 h4
    · obtain ⟨elt, tg, iter, ifs, scope, pos, rfl, h1, h2, h3, h4⟩ := comp_parts ihi ihc ihe C h
      exact s_qcomp C.calm (C.hN ▸ C.nd) h1 h2 h3 h4
  | nil =>
    refine Snd.args (fun {p X W xs} C h => ?_) rfl rfl (fun {p X W x} C h => ?_) rfl rfl
    · cases xs with
      | nil => exact s_nil
      | cons a b => cases (show false = true from h)
    · cases x with
      | none => exact s_oN
      | some a => cases (show false = true from h)
  | cons a as iha ihs =>
    refine Snd.args (fun {p X W xs} C h => ?_) rfl rfl (fun C h => no_o rfl C h) rfl rfl
    cases xs with
    | nil => cases (show false = true from h)
    | cons l ls =>
      replace h : (!isStar l && (ck T N a).e p l && (ck T N as).a p ls) = true := h
      simp only [Bool.and_eq_true, Bool.not_eq_true'] at h
      exact s_cons (iha.e C h.1.2) (ihs.a C h.2) (starEach_ns h.1.1)
  | star a as iha ihs =>
    refine Snd.args (fun {p X W xs} C h => ?_) rfl rfl (fun C h => no_o rfl C h) rfl rfl
    replace h : kStar (ck T N a) (ck T N as) p xs = true := h
    unfold kStar at h
    split at h
    · simp only [Bool.and_eq_true] at h
      exact s_star C.hK (iha.e C h.1) (ihs.a C h.2) rfl
    · cases h
  | seq a ih => exact Snd.iter (fun {p X W tg x} C h => s_itq C.hK (ih.q C h)) rfl rfl rfl rfl rfl
  | range1 a ih =>
    refine Snd.iter (fun {p X W tg x} C h => ?_) rfl rfl rfl rfl rfl
    replace h : kRg1 T (ck T N a) p tg x = true := h
    unfold kRg1 at h
    split at h
    · simp only [Bool.and_eq_true, decide_eq_true_eq, Bool.not_eq_true'] at h
      obtain ⟨⟨⟨rfl, h1⟩, h2⟩, h3⟩ := h
      exact s_itr1 (C.rgn h1) (ih.e C h3) (ns1 h2)
    · cases h
  | range2 a b iha ihb =>
    refine Snd.iter (fun {p X W tg x} C h => ?_) rfl rfl rfl rfl rfl
    replace h : kRg2 T (ck T N a) (ck T N b) p tg x = true := h
    unfold kRg2 at h
    split at h
    · simp only [Bool.and_eq_true, decide_eq_true_eq, Bool.not_eq_true'] at h
      obtain ⟨⟨⟨⟨⟨rfl, h1⟩, h2⟩, h3⟩, h4⟩, h5⟩ := h
      exact s_itr2 (C.rgn h1) (iha.e C h4) (ihb.e C h5) (ns2 h2 h3) (ns1 h3)
    · cases h
  | range3 a b c _ _ _ => exact Snd.iter (fun C h => by cases (show false = true from h)) rfl rfl rfl rfl rfl
  | zip a b iha ihb =>
    refine Snd.iter (fun {p X W tg x} C h => ?_) rfl rfl rfl rfl rfl
    replace h : kZip T (ck T N a) (ck T N b) p tg x = true := h
    unfold kZip at h
    split at h
    · simp only [Bool.and_eq_true, decide_eq_true_eq, Bool.not_eq_true'] at h
      obtain ⟨⟨⟨⟨⟨⟨h0, rfl⟩, h1⟩, h2⟩, h3⟩, h4⟩, h5⟩ := h
      obtain ⟨es, k, q, rfl⟩ := isTup_ok h0
      exact s_izip (C.rgn h1) (iha.e C h4) (ihb.e C h5) C.hK (ns2 h2 h3) (ns1 h3)
    · cases h
  | enum a ih =>
    refine Snd.iter (fun {p X W tg x} C h => ?_) rfl rfl rfl rfl rfl
    replace h : kEnum T (ck T N a) p tg x = true := h
    unfold kEnum at h
    split at h
    · simp only [Bool.and_eq_true, decide_eq_true_eq, Bool.not_eq_true'] at h
      obtain ⟨⟨⟨⟨h0, rfl⟩, h1⟩, h2⟩, h3⟩ := h
      obtain ⟨es, k, q, rfl⟩ := isTup_ok h0
      exact s_ien (C.rgn h1) (ih.e C h3) C.hK (ns1 h2)
    · cases h
  | rev a _ =>
    exact {
      e := fun C h => ⟨fun _ _ σ H Q _ ⟨_, _, _, _, _, q⟩ => q.elim⟩
      t := fun C h => ⟨fun _ _ σ H Q _ ⟨_, _, _, _, _, q⟩ => q.elim⟩
      w := fun C h => ⟨fun _ _ _ σ H Q _ ⟨_, _, _, _, _, q⟩ => q.elim⟩
      a := fun C h => ⟨fun _ _ _ σ H Q _ ⟨_, _, _, _, _, q⟩ => q.elim⟩
      o := fun C h => ⟨fun _ _ σ H Q _ ⟨_, _, _, _, _, q⟩ => q.elim⟩
      q := fun C h => ⟨fun _ _ σ H Q _ ⟨_, _, _, _, _, q⟩ => q.elim⟩
      i := fun C h => ⟨fun _ _ σ H R _ ⟨_, _, _, _, _, q⟩ => q.elim⟩ }
end
end Ev
set_option Elab.async false
set_option linter.all false
set_option maxRecDepth 100000
/-! EvP: all statements; all defs. -/
namespace Ev
open PySem PySem.Spec PyProof.Rows L2
/-- a def's body -/
structure CxtS (T : Tab) (N : List Str) (Ω : Wd) (fs : Fs) (p : Pl) (X : Cx) (W : WX) : Prop extends Cxt T N Ω fs p X W where
  bk : X.env.scope.kind = .function
  po : PassesOwn (model X.prog X.w) X.A X.env X.xe
section
variable {T : Tab} {N : List Str} {Ω : Wd} {fs : Fs} {Wn : Nat} {p : Pl} {X : Cx} {W : WX}
theorem CxtS.blk' (C : CxtS T N Ω fs p X W) : X.env.blockKind = .function := by unfold Env.blockKind; rw [C.bk]; rfl
theorem sw_plain {e : Expr} {t : Option Expr} {l : Nat} {env : Env} (h : plainV e = true) : swapsWith e t l env = pure false := by
  cases e <;> first | rfl | cases h
theorem sw_tup {es : List Expr} {k : Nat} {q : Pos} {e : Expr} {l : Nat} {env : Env} : swapsWith e (some (.Tuple es k q)) l env = pure false := by
  cases e <;> rfl
theorem sw_sub {a b : Expr} {q : Pos} {e : Expr} {l : Nat} {env : Env} : swapsWith e (some (.Subscript a b q)) l env = pure false := by
  cases e <;> rfl
theorem st_sub {a b : Expr} {q : Pos} {e : Expr} {env : Env} : swappedStores [.Subscript a b q] e env = pure none := by
  cases e <;> rfl
theorem st_tup {es : List Expr} {k : Nat} {q : Pos} {e : Expr} {env : Env} (h : isTupE e = false) : swappedStores [.Tuple es k q] e env = pure none := by
  cases e <;> first | rfl | cases h
theorem isL_ok (C : Cxt T N Ω fs p X W) {i : Nat} {x : Str} (h : isL p N i x = true) : X.N[i]? = some x ∧ X.env.scope.names.lookup x = some .local := by
  unfold isL kind? at h
  simp only [Bool.and_eq_true, decide_eq_true_eq] at h
  rw [C.hN, C.sc]
  exact ⟨h.1, eq_of_beq h.2⟩
theorem nbeq {i j : Nat} (h : (!Nat.beq i j) = true) : i ≠ j := by
  intro e; subst e; simp at h
structure SndS (T : Tab) (N : List Str) (Ω : Wd) (fs : Fs) (Wn : Nat) (b : S) : Prop where
  one : ∀ {p X W x}, CxtS T N Ω fs p X W → (ckS T N b).one p x = true → PS X x (tS Ω W (ex fs Wn b))
  all : ∀ {p X W xs}, CxtS T N Ω fs p X W → (ckS T N b).all p xs = true → PSs X xs (tS Ω W (ex fs Wn b))
theorem SndS.one' {b : S} (h1 : ∀ {p X W x}, CxtS T N Ω fs p X W → (ckS T N b).one p x = true → PS X x (tS Ω W (ex fs Wn b))) (h : (ckS T N b).all = fun _ _ => false) : SndS T N Ω fs Wn b :=
  ⟨h1, fun C q => by rw [h] at q; cases q⟩
theorem sound_s : ∀ b : S, SndS T N Ω fs Wn b := by
  intro b
  induction b with
  | nil =>
    refine ⟨(fun C h => by cases (show false = true from h)), fun {p X W xs} C h => ?_⟩
    cases xs with
    | nil => exact s_snil
    | cons a b => cases (show false = true from h)
  | seq s r ihs ihr =>
    refine ⟨(fun C h => by cases (show false = true from h)), fun {p X W xs} C h => ?_⟩
    cases xs with
    | nil => cases (show false = true from h)
    | cons a b =>
      replace h : ((ckS T N s).one p a && (ckS T N r).all p b) = true := h
      rw [Bool.and_eq_true] at h
      exact s_sseq (ihs.one C h.1) (ihr.all C h.2)
  | set i e =>
    refine SndS.one' (fun {p X W x} C h => ?_) rfl
    replace h : (kSet N i (ck T N e) p x || kSetX T N i p x e) = true := h
    rw [Bool.or_eq_true] at h
    rcases h with h | h
    · unfold kSet at h
      split at h
      · simp only [Bool.and_eq_true, decide_eq_true_eq] at h
        obtain ⟨⟨⟨h1, h2⟩, h3⟩, h4⟩ := h
        obtain ⟨l1, l2⟩ := C.toCxt.loc h2
        exact s_set (C.hN ▸ C.nd) (by rw [C.hN]; exact h1) l1 ((sound_e e).e C.toCxt h3) (sw_plain h4) l2
      · cases h
    · unfold kSetX at h
      split at h
      · rename_i own t it c el
        unfold kSetC at h
        split at h
        · rename_i y py elt gs scope pos spos
          simp only [Bool.and_eq_true, Bool.not_eq_true'] at h
          obtain ⟨⟨⟨h1, h2⟩, h3⟩, h4⟩ := h
          obtain ⟨l1, l2⟩ := isL_ok C.toCxt h1
          obtain ⟨elt', tg, iter, ifs, scope', pos', ex', q1, q2, q3, q4⟩ := comp_parts (sound_e it) (sound_e c) (sound_e el) C.toCxt h4
          cases ex'
          exact s_setLc C.calm (C.hN ▸ C.nd) l1 l2 (sw_true C.bk l2 h2 h3) q1 q2 q3 q4
        · cases h
      · cases h
  | asg t e =>
    refine SndS.one' (fun {p X W x} C h => ?_) rfl
    replace h : kAsg N t (ck T N e) p x = true := h
    unfold kAsg at h
    split at h
    · rename_i es k q v pos
      simp only [Bool.and_eq_true] at h
      obtain ⟨⟨h1, h2⟩, h3⟩ := h
      have hw : swappedStores [.Tuple es k q] v X.env = pure none := by
        split at h3
        · exact swO_ok C.blk' (by rw [C.sc]; exact of_decide_eq_true h3)
        · rename_i hv
          refine st_tup ?_
          cases v <;> first | rfl | exact absurd rfl (hv _ _ _)
      exact s_asg ((sound_e e).e C.toCxt h2) ((ckT_ok C.toCxt t).1 _ h1) (show swapsWithSole [.Tuple es k q] v pos.line X.env = pure false from sw_tup (es := es) (k := k) (q := q) (e := v) (l := pos.line) (env := X.env)) hw rfl
    · cases h
  | par is as =>
    refine SndS.one' (fun {p X W x} C h => ?_) rfl
    replace h : kPar N is (ck T N as) p x = true := h
    unfold kPar at h
    split at h
    · split at h
      · simp only [Bool.and_eq_true, decide_eq_true_eq] at h
        obtain ⟨⟨⟨⟨h1, h2⟩, h3⟩, h4⟩, h5⟩ := h
        obtain ⟨a1, a2⟩ := isL_ok C.toCxt h1
        obtain ⟨b1, b2⟩ := isL_ok C.toCxt h2
        exact s_par2 C.calm (C.hN ▸ C.nd) a1 b1 (nbeq h3) a2 b2 ((sound_e as).a C.toCxt h5) (swO_ok C.blk' (by rw [C.sc]; exact h4)) rfl
      · cases h
    · split at h
      · simp only [Bool.and_eq_true, decide_eq_true_eq] at h
        obtain ⟨⟨⟨⟨⟨⟨⟨h1, h2⟩, h3⟩, h4⟩, h5⟩, h6⟩, h7⟩, h8⟩ := h
        obtain ⟨a1, a2⟩ := isL_ok C.toCxt h1
        obtain ⟨b1, b2⟩ := isL_ok C.toCxt h2
        obtain ⟨c1, c2⟩ := isL_ok C.toCxt h3
        exact s_par3 C.calm (C.hN ▸ C.nd) a1 b1 c1 (nbeq h4) (nbeq h5) (nbeq h6) a2 b2 c2 ((sound_e as).a C.toCxt h8) (swO_ok C.blk' (by rw [C.sc]; exact h7)) rfl
      · cases h
    · cases h
  | sub o i v =>
    refine SndS.one' (fun {p X W x} C h => ?_) rfl
    replace h : kSub (ck T N o) (ck T N i) (ck T N v) p x = true := h
    unfold kSub at h
    split at h
    · simp only [Bool.and_eq_true, Bool.not_eq_true'] at h
      obtain ⟨⟨⟨⟨h1, h2⟩, h3⟩, h4⟩, h5⟩ := h
      rename_i l r q e pos
      refine s_sub ((sound_e o).e C.toCxt h1) ((sound_e i).e C.toCxt h2) ((sound_e v).e C.toCxt h3) (show swapsWithSole [.Subscript l r q] e pos.line X.env = pure false from sw_sub (a := l) (b := r) (q := q) (e := e) (l := pos.line) (env := X.env)) st_sub rfl fun v => ?_
      cases r <;> first | rfl | cases h5
    · cases h
  | aug i o e =>
    refine SndS.one' (fun {p X W x} C h => ?_) rfl
    replace h : kAug N i o (ck T N e) p x = true := h
    unfold kAug at h
    split at h
    · simp only [Bool.and_eq_true, decide_eq_true_eq, Bool.or_eq_true] at h
      obtain ⟨⟨⟨⟨h1, h2⟩, rfl⟩, h3⟩, h4⟩ := h
      obtain ⟨l1, l2⟩ := C.toCxt.loc h2
      exact s_aug h3 C.hK (C.hN ▸ C.nd) (by rw [C.hN]; exact h1) l1 ((sound_e e).e C.toCxt h4) l2
    · cases h
  | drop e =>
    refine SndS.one' (fun {p X W x} C h => ?_) rfl
    replace h : (isAny e || kDrop (ck T N e) p x) = true := h
    rw [Bool.or_eq_true] at h
    rcases h with h | h
    · cases e <;> first | cases h; done | skip
      exact ⟨fun _ _ σ H D _ ⟨_, _, _, _, _, q⟩ => q.elim⟩
    · unfold kDrop at h
      split at h
      · rw [Bool.and_eq_true] at h
        exact s_drop ((sound_e e).e C.toCxt h.1) (sw_plain h.2)
      · cases h
  | ite c a b iha ihb =>
    refine SndS.one' (fun {p X W x} C h => ?_) rfl
    replace h : kIf (ck T N c) (ckS T N a).all (ckS T N b).all p x = true := h
    unfold kIf at h
    split at h
    · simp only [Bool.and_eq_true] at h
      exact s_if ((sound_e c).t C.toCxt h.1.1) (iha.all C h.1.2) (ihb.all C h.2)
    · cases h
  | whl c b ihb =>
    refine SndS.one' (fun {p X W x} C h => ?_) rfl
    replace h : kWhl (ck T N c) (ckS T N b).all p x = true := h
    unfold kWhl at h
    split at h
    · simp only [Bool.and_eq_true] at h
      exact s_while C.po ((sound_e c).t C.toCxt h.1) (ihb.all C h.2)
    · cases h
  | «for» t it b ihb =>
    refine SndS.one' (fun {p X W x} C h => ?_) rfl
    replace h : kFor N t (ck T N it) (ckS T N b).all p x = true := h
    unfold kFor at h
    split at h
    · simp only [Bool.and_eq_true, Bool.not_eq_true'] at h
      obtain ⟨⟨⟨h1, h2⟩, h3⟩, h4⟩ := h
      exact s_for C.po C.calm ((sound_e it).i C.toCxt h1) ((ckT_ok C.toCxt t).1 _ h2) (ihb.all C h3) (noSet h4)
    · cases h
  | ret e =>
    refine SndS.one' (fun {p X W x} C h => ?_) rfl
    replace h : kRet (ck T N e) p x = true := h
    unfold kRet at h
    split at h
    · exact s_ret ((sound_e e).e C.toCxt h)
    · cases h
  | retN =>
    refine SndS.one' (fun {p X W x} C h => ?_) rfl
    replace h : kRetN p x = true := h
    unfold kRetN at h
    split at h
    · exact s_retN
    · cases h
  | brk =>
    refine SndS.one' (fun {p X W x} C h => ?_) rfl
    replace h : kBrk p x = true := h
    unfold kBrk at h
    split at h
    · exact s_brk
    · cases h
  | cont =>
    refine SndS.one' (fun {p X W x} C h => ?_) rfl
    replace h : kCont p x = true := h
    unfold kCont at h
    split at h
    · exact s_cont
    · cases h
  | pass =>
    refine SndS.one' (fun {p X W x} C h => ?_) rfl
    replace h : kPass p x = true := h
    unfold kPass at h
    split at h
    · exact s_pass
    · cases h
  | rais c x as => exact SndS.one' (fun C h => by cases (show false = true from h)) rfl
end

/-! ### the program -/
/-- a def of the program: its name, its parts, its defaults, its slots, my text of it -/
structure DF where
  x : Str
  args : Arguments
  body : List Stmt
  sc : Scope
  ds : List D
  N : List Str
  b : S
def DF.ps (d : DF) : List Str := d.args.args.map (·.arg)
def DF.fd (d : DF) : FD := ⟨d.ps.length, d.N.length, d.b⟩
def DF.fe (d : DF) : FE := ⟨d.x, d.ps, d.ds⟩
def ndB : List Str → Bool
  | [] => true
  | x :: xs => !xs.contains x && ndB xs
theorem ndB_ok : ∀ {l : List Str}, ndB l = true → l.Nodup
  | [], _ => List.nodup_nil
  | x :: xs, h => by
    simp only [ndB, Bool.and_eq_true, Bool.not_eq_true'] at h
    exact List.nodup_cons.mpr ⟨by simpa using h.1, ndB_ok h.2⟩
def fnScB (N ps : List Str) (sc : Scope) : Bool := (sc.kind == .function) && !sc.isCoroutine && !sc.isGenerator && ndB N && decide (N.take ps.length = ps) &&
  (ps.all fun x => (match sc.names.lookup x with
    | some .local => true
    | some .cell => true
    | _ => false)) && (sc.names.all fun y => !(y.2 == .free))
theorem fnScB_ok {N ps : List Str} {sc : Scope} (h : fnScB N ps sc = true) : FnScope N ps sc := by
  unfold fnScB at h
  simp only [Bool.and_eq_true, Bool.not_eq_true', decide_eq_true_eq] at h
  obtain ⟨⟨⟨⟨⟨⟨h1, h2⟩, h3⟩, h4⟩, h5⟩, h6⟩, h7⟩ := h
  refine ⟨eq_of_beq h1, h2, h3, ndB_ok h4, h5, fun x hx => ?_, fun y hy e => ?_⟩
  · have := List.all_eq_true.mp h6 x hx
    split at this
    · rename_i e; exact .inl e
    · rename_i e; exact .inr e
    · cases this
  · have := List.all_eq_true.mp h7 y hy
    rw [e] at this
    cases this
def ckD (T : Tab) (d : DF) : Bool := plainP d.args && ndB d.ps && fnScB d.N d.ps d.sc && Nat.ble d.ds.length d.ps.length && (ckS T d.N d.b).all ⟨d.sc, fun _ => true⟩ d.body
def ckP (T : Tab) (p : List DF) : Bool := p.all (ckD T)
/-- what the head tells -/
structure Hd (P : Program) (w : World) (K : PySem.W.Frag) (mg : Str → Option Value) (Ω : Wd) (G : List (Str × D)) (B : List Str) (p : List DF) : Prop where
  hK : K = Ω.K
  glob : ∀ (x : Str) (d : D), G.lookup x = some d → ∃ v u, mg x = some u ∧ RelV v u ∧ ∀ A H, RV Ω A H v d
  free : ∀ x, B.contains x = true → mg x = none
  fn : ∀ (i : Nat) (d : DF), p[i]? = some d → ∃ f fd dvs, mg d.x = some (.ref f) ∧ FunD K d.x d.x d.args d.body d.sc dvs [] f fd ∧ DflR Ω dvs d.ds
section
variable {P : Program} {w : World} {K : PySem.W.Frag} {mg : Str → Option Value} {base : Heap} {Ω : Wd} {G : List (Str × D)} {B : List Str} {p : List DF} {Wn : Nat}
def tabOf (G : List (Str × D)) (B : List Str) (p : List DF) : Tab := ⟨G, B, p.map DF.fe⟩
theorem sound_p (hd : Hd P w K mg Ω G B p) (hc : ckP (tabOf G B p) p = true) : ∀ (n i : Nat) (d : DF) (f : Addr) (fd : FuncData) (dvs : List V), p[i]? = some d → FunD K d.x d.x d.args d.body d.sc dvs [] f fd → DflR Ω dvs d.ds →
    FnG P w K mg base n f fd d.ps (spF Ω (runF (p.map DF.fd) Wn n i) d.ps.length) := by
  intro n
  induction n with
  | zero =>
    intro i d f fd dvs e F hD
    constructor
    intro Ar out st Hh ars ws xs Qr Er _ _ _ _ _ ⟨_, _, _, _, _, _, z⟩
    exact z.elim
  | succ n ih =>
    intro i d f fd dvs e F hD
    have hcd := List.all_eq_true.mp hc d (List.mem_of_getElem? e)
    unfold ckD at hcd
    simp only [Bool.and_eq_true] at hcd
    obtain ⟨⟨⟨⟨h1, h2⟩, h3⟩, h4⟩, h5⟩ := hcd
    have e2 : runF (p.map DF.fd) Wn (n + 1) i = callF (runF (p.map DF.fd) Wn n) Wn d.fd := by
      funext ds m
      have z : runF (p.map DF.fd) Wn (n + 1) i ds m = (match (p.map DF.fd)[i]? with
        | some f => callF (runF (p.map DF.fd) Wn n) Wn f ds m
        | none => .stuck) := rfl
      rw [z, List.getElem?_map, e]
      rfl
    rw [e2]
    refine fn_level F (fnScB_ok h3) fun cdv A outer s H E hr hg => ?_
    refine (sound_s d.b).all (p := ⟨d.sc, fun _ => true⟩) ?_ h5
    exact {
      hK := hd.hK
      hN := rfl
      nd := (fnScB_ok h3).nd
      sc := rfl
      own := fun _ _ => rfl
      calm := rfl
      gd := hg
      un := hr.units
      tk := takes_of rfl rfl rfl rfl
      glob := hd.glob
      free := hd.free
      fn := fun k fe hk => by
        have hk' : (p.map DF.fe)[k]? = some fe := hk
        rw [List.getElem?_map] at hk'
        cases q : p[k]? with
        | none => rw [q] at hk'; cases hk'
        | some d' =>
          rw [q] at hk'
          cases hk'
          obtain ⟨f', fd', dvs', m', F', D'⟩ := hd.fn k d' q
          have hcd' := List.all_eq_true.mp hc d' (List.mem_of_getElem? q)
          unfold ckD at hcd'
          simp only [Bool.and_eq_true] at hcd'
          obtain ⟨⟨⟨⟨g1, g2⟩, g3⟩, g4⟩, g5⟩ := hcd'
          have ll : dvs'.length = d'.ds.length := (D' [] fun _ => none).length
          have lp : d'.ps.length = d'.args.args.length := by unfold DF.ps; simp
          refine ⟨n, hr, ⟨f', fd', m', F'.kp, ih k d' f' fd' dvs' q F' D', fun j hj1 hj2 => ?_⟩, fun es m hs => ?_⟩
          · have hj1 : j ≤ d'.ps.length := hj1
            have hj2 : d'.ps.length ≤ j + d'.ds.length := hj2
            have g4 := Nat.le_of_ble_eq_true g4
            obtain ⟨us, hv, hb⟩ := plain_binds F' g1 (ndB_ok g2) (n := j) (by omega) (by omega) (by omega)
            rw [ll, ← lp] at hv
            exact ⟨_, us, fun A H => RVs.drop _ (D' A H), hv, hb⟩
          · exact runF_len (f := d'.fd) (by rw [List.getElem?_map, q]; rfl) hs
      bk := (fnScB_ok h3).kind
      po := passes_of rfl }
end
end Ev
set_option Elab.async false
set_option linter.all false
set_option maxRecDepth 100000
/-! EvQ: the law's def called by the claim. -/
namespace Ev
open PySem PySem.Spec PyProof.Rows L2
section
variable {P : Program} {w : World} {K : PySem.W.Frag} {mg mb : Str → Option Value} {lv : Nat} {f a : Addr} {fd : FuncData} {x : Str} {sp : Sp} {st : Shared} {vs : List Value} {ns : List Int}
/-- at an abstract heap Hh that tracks at most the script -/
theorem law_at {Hh : Hp} (KX : K.In st.heap) (gN : st.heap.Ns mainGlobals mg) (bN : st.heap.Ns builtinsNs mb) (bB : ∀ x : Str, x ≠ "__name__" → mb x = bootBuiltins x) (nl : st.heap.NoLimit) (g0 : st.gens = #[])
    (ha : st.heap.get? a = some { cls := .type "list", data := .seq vs.toArray }) (hr : Room lv callerA) (F : ∀ b : Heap, K.In b → b.Ns mainGlobals mg → FnG P w K mg b lv f fd [x] sp)
    (hB : ∀ (s : Shared) (u : Value), BindsTo s fd ⟨[u], []⟩ [(x, u)]) (O : Only Hh) (ok : HOk P w Hh st.heap) (at_ : ∀ b, Hh b ≠ none → b = a) (notK : Hh a ≠ none → K.lookup a = none) (h : sp [.ref a] Hh (fun v _ => v = .bl true) fun _ _ _ => False) :
    codeAny (model P w) callerA (.call (.ref f) ⟨[.ref a], []⟩) (fun o s' => o = .ok (.ret (.bool true)) ∧ OldK st.heap s'.heap ∧ s'.os = st.os ∧ AllBare s'.gens) st := by
  -- a tracked address is the script's
  have isA : ∀ {b : Addr}, (∃ u, Hh b = some u) → b = a := fun ⟨u, e⟩ => at_ _ (by simp [e])
  have dictN : ∀ {b : Addr} {o : Obj} {es : Array DictEntry} {ep : Nat}, st.heap.get? b = some o → o.data = .dict es ep → Hh b = none := by
    intro b o es ep e d
    refine Decidable.byContradiction fun z => ?_
    have eb := at_ b z
    rw [eb, ha] at e
    have eo := Option.some.inj e
    rw [← eo] at d
    cases d
  have nsB : ∀ {b : Addr} {m : Str → Option Value}, st.heap.Ns b m → (hidT st.heap Hh).Ns b m := by
    rintro b m ⟨o, es, ep, e, d, r⟩
    exact ⟨o, es, ep, hidT_get e (dictN e d), d, r⟩
  have kB : K.In (hidT st.heap Hh) := by
    intro b o e
    refine hidT_get (KX b o e) (Decidable.byContradiction fun z => ?_)
    have eb := at_ b z
    subst eb
    have := notK z
    rw [this] at e
    cases e
  obtain ⟨mc, l1, l2⟩ := nl
  have md : Mod K mg (hidT st.heap Hh) := ⟨kB, nsB gN, ⟨mb, nsB bN, bB⟩, ⟨mc, nsB l1, l2⟩⟩
  have e0 : Env0 P w K mg (hidT st.heap Hh) callerA [] st Hh := by
    refine ⟨rfl, md, fun b o e => of_hidT e, Nat.le_of_eq (hidT_size _ _), trivial, ?_, ok, .of_eq g0⟩
    intro b hb
    cases hb
  have c := (F _ kB (nsB gN)).go callerA [] st Hh ⟨[.ref a], []⟩ [.ref a] [.ref a] (fun v _ => v = .bl true) (fun _ _ _ => False) hr rfl e0 (hB st (.ref a)) (.cons rfl .nil) h
  refine codeAny_mono c fun o s' q => ?_
  rcases o with e | fl
  · obtain ⟨_, _, _, _, _, _, _, _, _, _, _, _, z⟩ := q
    exact z.elim
  · cases fl <;> try exact False.elim q
    rename_i u
    obtain ⟨v, H1, eo, br, un, ok1, r1, ev⟩ := q
    have ev : v = .bl true := ev
    subst ev
    cases (show u = Value.bool true from r1)
    refine ⟨rfl, OldK.of_keep ?_, eo, br⟩
    intro b o e
    rcases O b with z | ⟨ob, xs, z⟩
    · exact un.keep b o e z (fun m => nomatch m) (fun m => nomatch m)
    · have e1 := (ok b _ z).1
      have e2 := (ok1 b _ (un.frzs b ob _ z)).1
      rw [e] at e1
      rw [Option.some.inj e1]
      exact e2
theorem law_go (KX : K.In st.heap) (gN : st.heap.Ns mainGlobals mg) (bN : st.heap.Ns builtinsNs mb) (bB : ∀ x : Str, x ≠ "__name__" → mb x = bootBuiltins x) (nl : st.heap.NoLimit) (g0 : st.gens = #[])
    (ha : st.heap.get? a = some { cls := .type "list", data := .seq vs.toArray }) (hi : IntsAre vs ns) (hl : ns.length ≤ sizeLine) (hr : Room lv callerA) (F : ∀ b : Heap, K.In b → b.Ns mainGlobals mg → FnG P w K mg b lv f fd [x] sp)
    (hB : ∀ (s : Shared) (u : Value), BindsTo s fd ⟨[u], []⟩ [(x, u)]) (h : ∀ Hh : Hp, Only Hh → SqL K Hh a (ns.map V.int) → sp [.ref a] Hh (fun v _ => v = .bl true) fun _ _ _ => False) :
    codeAny (model P w) callerA (.call (.ref f) ⟨[.ref a], []⟩) (fun o s' => o = .ok (.ret (.bool true)) ∧ OldK st.heap s'.heap ∧ s'.os = st.os ∧ AllBare s'.gens) st := by
  have rv := vals_ints hi
  have ln := hi.length
  cases hk : K.lookup a with
  | some o =>
    have e := KX a o hk
    rw [ha] at e
    have e := (Option.some.inj e).symm
    subst e
    have O : Only fun _ => none := fun b => .inl rfl
    refine law_at (Hh := fun _ => none) KX gN bN bB nl g0 ha hr F hB O ?_ (fun b z => absurd rfl z) (fun z => absurd rfl z) (h _ O (.inr ⟨_, vs.toArray, _, hk, rfl, rfl, rfl, ?_, by simpa using rv⟩))
    · intro b u z
      cases (show (none : Option HO) = some u from z)
    · rw [List.size_toArray, ln]; exact hl
  | none =>
    let ob : Obj := { cls := .type "list", data := .seq vs.toArray }
    let Hh : Hp := fun b => if b = a then some (.frz ob (.lst (ns.map V.int))) else none
    have hA : Hh a = some (.frz ob (.lst (ns.map V.int))) := if_pos rfl
    have hN : ∀ {b : Addr}, b ≠ a → Hh b = none := fun n => if_neg n
    have O : Only Hh := fun b => by
      by_cases n : b = a
      · subst n; exact .inr ⟨_, _, hA⟩
      · exact .inl (hN n)
    refine law_at (Hh := Hh) KX gN bN bB nl g0 ha hr F hB O ?_ (fun b z => Decidable.byContradiction fun n => z (hN n)) (fun _ => hk) (h _ O (.inl (.inr ⟨ob, hA⟩)))
    intro b u z
    by_cases n : b = a
    · subst n
      rw [hA] at z
      have z := (Option.some.inj z).symm
      subst z
      exact ⟨ha, by rw [List.length_map]; exact hl, vs, _, rv, ha⟩
    · rw [hN n] at z; cases z
end
/-- the law's end, over a head by facts -/
theorem walk_ev {l : PySem.W.OpenLaw} {n lv : Nat} {q : Program} {loose : List Str} {XP : (Str → Option Value) → Heap → Prop} {YP : World → Heap → Prop} {d : DefRec} {x : Str} (hn : l.most = some n) (hn2 : n ≤ sizeLine) (hdf : d.params.defaults = []) (hr : Room lv callerA)
    (F : ∀ (w : World) (mg : Str → Option Value) (fa : Addr) (h : Heap), YP w h → h.Ns mainGlobals mg → mg d.name = some (.ref fa) → ∃ (K : PySem.W.Frag) (fd : FuncData) (sp : Sp), K.In h ∧ (∀ (s : Shared) (u : Value), BindsTo s fd ⟨[u], []⟩ [(x, u)]) ∧
      (∀ (Hh : Hp) (a : Addr) (ns : List Int), ns.length ≤ n → Only Hh → SqL K Hh a (ns.map V.int) → sp [.ref a] Hh (fun v _ => v = .bl true) fun _ _ _ => False) ∧ ∀ b : Heap, K.In b → b.Ns mainGlobals mg → FnG l.prog w K mg b lv fa fd [x] sp) :
    PySem.W.WalkO q loose XP YP l.row.toRowW d [] (fun f vs => PySem.call f vs) := by
  refine Att.attach_call hn hdf ?_
  intro w s₀ s₁ mg mb fa o pm cd doc a vs ns G Y ho hd hcd hmg hob hin hlen hgen
  obtain ⟨K, fd, sp, KX, hB, hs, hF⟩ := F w mg fa _ Y G.T.g hmg
  exact law_go KX G.T.g G.T.b G.T.builtins G.T.nolimit hgen hob hin (Nat.le_trans hlen hn2) hr hF hB fun Hh O S => hs Hh a ns hlen O S
end Ev
set_option Elab.async false
set_option linter.all false
set_option maxRecDepth 100000
/-! EvR: what the head tells, by a hook of my own: the written part without lists. -/
namespace Ev
open PySem PySem.Spec PyProof.Rows L2
/-! ### the written part -/
def noListB (o : Obj) : Bool := match o.cls with
  | .type c => !decide (c = "list")
  | _ => true
def frE (g : Addr → Option Obj) (n : Nat) : PySem.W.Frag := (He.frG g (He.asD g n)).filter fun p => noListB p.2
theorem frG_mem {g : Addr → Option Obj} {as : List Addr} {p : Addr × Obj} (h : p ∈ He.frG g as) : g p.1 = some p.2 := by
  unfold He.frG at h
  obtain ⟨a, _, e⟩ := List.mem_filterMap.mp h
  cases q : g a with
  | none => rw [q] at e; cases e
  | some o =>
    rw [q] at e
    cases e
    exact q
theorem lookup_mem {β : Type} {a : Addr} {o : β} : ∀ {l : List (Addr × β)}, l.lookup a = some o → (a, o) ∈ l
  | [], h => by cases h
  | (b, u) :: l, h => by
    rw [List.lookup_cons] at h
    split at h
    · rename_i e
      cases h
      rw [beq_iff_eq.mp e]
      exact List.mem_cons_self
    · exact List.mem_cons_of_mem _ (lookup_mem h)
theorem frE_in {n : Nat} {h : Heap} : (frE h.get? n).In h := fun a o e => frG_mem (List.mem_filter.mp (lookup_mem e)).1
theorem frE_no {n : Nat} {g : Addr → Option Obj} {a : Addr} {o : Obj} (e : (frE g n).lookup a = some o) : noListB o = true := (List.mem_filter.mp (lookup_mem e)).2

/-! ### values -/
def wdOf (K : PySem.W.Frag) (fs cs : List Str) : Wd := ⟨K, fun k => He.ga K (fs.getD k Str.empty), fun k => He.ga K (cs.getD k Str.empty)⟩
mutual
def relD (K : PySem.W.Frag) (fs cs : List Str) : Value → D → Bool
  | u, .non => (match u with
    | .none => true
    | _ => false)
  | u, .bl b => (match u with
    | .bool c => b == c
    | _ => false)
  | u, .int i => (match u with
    | .int j _ => decide (i = j)
    | _ => false)
  | u, .str x => (match u with
    | .str y _ => decide (x = y)
    | _ => false)
  | u, .fn k => (match u with
    | .ref a => decide (a = He.ga K (fs.getD k Str.empty))
    | _ => false)
  | u, .cls k => (match u with
    | .ref a => decide (a = He.ga K (cs.getD k Str.empty))
    | _ => false)
  | u, .tup ds => (match u with
    | .ref a => (match K.lookup a with
      | some ⟨.type c, _, .seq its _, _⟩ => decide (c = "tuple") && decide (its.size ≤ sizeLine) && relDs K fs cs its.toList ds
      | _ => false)
    | _ => false)
  | _, _ => false
def relDs (K : PySem.W.Frag) (fs cs : List Str) : List Value → List D → Bool
  | us, [] => us.isEmpty
  | us, d :: ds => (match us with
    | u :: us => relD K fs cs u d && relDs K fs cs us ds
    | [] => false)
end
section
variable {K : PySem.W.Frag} {fs cs : List Str}
mutual
theorem relD_ok : ∀ {d : D} {u : Value}, relD K fs cs u d = true → ∃ v, RelV v u ∧ ∀ A H, RV (wdOf K fs cs) A H v d
  | .non, u, h => by
    simp only [relD] at h
    split at h
    · exact ⟨.non, rfl, fun _ _ => .non⟩
    · cases h
  | .bl b, u, h => by
    simp only [relD] at h
    split at h
    · cases eq_of_beq h; exact ⟨.bl b, rfl, fun _ _ => .bl b⟩
    · cases h
  | .int i, u, h => by
    simp only [relD] at h
    split at h
    · cases of_decide_eq_true h; exact ⟨.int i, ⟨_, rfl⟩, fun _ _ => .int i⟩
    · cases h
  | .str x, u, h => by
    simp only [relD] at h
    split at h
    · cases of_decide_eq_true h; exact ⟨.str x, ⟨_, rfl⟩, fun _ _ => .str x⟩
    · cases h
  | .ty _, u, h => by simp only [relD] at h; cases h
  | .loc _, u, h => by simp only [relD] at h; cases h
  | .lam _ _, u, h => by simp only [relD] at h; cases h
  | .fn k, u, h => by
    simp only [relD] at h
    split at h
    · cases of_decide_eq_true h; exact ⟨.ref (He.ga K (fs.getD k Str.empty)), rfl, fun _ _ => .fn k⟩
    · cases h
  | .cls k, u, h => by
    simp only [relD] at h
    split at h
    · cases of_decide_eq_true h; exact ⟨.ref (He.ga K (cs.getD k Str.empty)), rfl, fun _ _ => .cls k⟩
    · cases h
  | .tup ds, u, h => by
    simp only [relD] at h
    split at h
    · rename_i a
      split at h
      · rename_i c _ its n sl e
        simp only [Bool.and_eq_true, decide_eq_true_eq] at h
        obtain ⟨⟨h1, h2⟩, h3⟩ := h
        obtain ⟨vs, r, q⟩ := relDs_ok h3
        refine ⟨.ref a, rfl, fun A H => .tupK (.inr ⟨_, its, n, e, congrArg Value.type h1, rfl, h2, r⟩) (q A H)⟩
      · cases h
    · cases h
theorem relDs_ok : ∀ {ds : List D} {us : List Value}, relDs K fs cs us ds = true → ∃ vs, Vals vs us ∧ ∀ A H, RVs (wdOf K fs cs) A H vs ds
  | [], us, h => by
    simp only [relDs, List.isEmpty_iff] at h
    subst h
    exact ⟨[], .nil, fun _ _ => .nil⟩
  | d :: ds, us, h => by
    simp only [relDs] at h
    split at h
    · rename_i u us
      rw [Bool.and_eq_true] at h
      obtain ⟨v, r1, q1⟩ := relD_ok h.1
      obtain ⟨vs, r2, q2⟩ := relDs_ok h.2
      exact ⟨v :: vs, .cons r1 r2, fun A H => .cons (q1 A H) (q2 A H)⟩
    · cases h
end
end

/-! ### the defs -/
def dvOf : D → He.Dv
  | .bl b => .bl b
  | .int i => .int i
  | .str x => .str x
  | _ => .non
def scalB : D → Bool
  | .non => true
  | .bl _ => true
  | .int _ => true
  | .str _ => true
  | _ => false
def DF.dd (d : DF) : He.DefD := ⟨(d.x, none), d.x, d.x, d.args, d.body, d.sc, d.ds.map dvOf, []⟩
theorem dvOf_ok {Ω : Wd} {K : PySem.W.Frag} {d : D} (h : scalB d = true) (A : List Addr) (H : Hp) : RV Ω A H ((dvOf d).v K) d := by
  cases d <;> first | (cases h; done) | skip
  · exact .non
  · exact .bl _
  · exact .int _
  · exact .str _
theorem dvs_ok {Ω : Wd} {K : PySem.W.Frag} : ∀ {ds : List D}, ds.all scalB = true → DflR Ω ((ds.map dvOf).map (He.Dv.v K)) ds
  | [], _ => fun _ _ => .nil
  | d :: ds, h => fun A H => by
    rw [List.all_cons, Bool.and_eq_true] at h
    exact .cons (dvOf_ok h.1 A H) (dvs_ok h.2 A H)
def hdB (K : PySem.W.Frag) (G : List (Str × D)) (B : List Str) (p : List DF) (cs : List Str) : Bool :=
  (G.all fun q => (match PySem.W.nsIn K mainGlobals q.1 with
    | some (some u) => relD K (p.map (·.x)) cs u q.2
    | _ => false)) && (B.all fun x => He.eqO (PySem.W.nsIn K mainGlobals x) (some none)) && (p.all fun d => He.eqO (PySem.W.nsIn K mainGlobals d.x) (some (some (.ref (He.ga K d.x)))) && d.dd.ok K && d.ds.all scalB)
abbrev AlE : Type := Bool × List He.FnW
def obsE (G : List (Str × D)) (B : List Str) (p : List DF) (cs : List Str) (K : PySem.W.Frag) : AlE := (hdB K G B p cs, p.map fun d => He.fnW K d.dd.at_)
def valE (p : List DF) : AlE := (true, p.map fun d => d.dd.val)
structure SaysE (G : List (Str × D)) (B : List Str) (p : List DF) (cs : List Str) (K : PySem.W.Frag) : Prop where
  obs : obsE G B p cs K = valE p
  no : ∀ a o, K.lookup a = some o → noListB o = true
def obsEG (n : Nat) (G : List (Str × D)) (B : List Str) (p : List DF) (cs : List Str) (g : Addr → Option Obj) : AlE := obsE G B p cs (frE g n)
def hookE (n : Nat) (G : List (Str × D)) (B : List Str) (p : List DF) (cs : List Str) : PySem.W.Hook where
  α := AlE
  obs := fun s => obsEG n G B p cs s.heap.get?
  val := fun _ => valE p
  says := fun _ h => ∃ K : PySem.W.Frag, K.In h ∧ SaysE G B p cs K
  of := fun _ _ e => ⟨_, frE_in, ⟨e, fun _ _ z => frE_no z⟩⟩
  keeps := fun _ _ _ ⟨K, hK, c⟩ k => ⟨K, PySem.W.Frag.In.keeps hK k, c⟩
theorem obsEG_eq {n : Nat} {G : List (Str × D)} {B : List Str} {p : List DF} {cs : List Str} {g : Addr → Option Obj} {s : Shared} (h : ∀ a, g a = s.heap.get? a) : obsEG n G B p cs g = (hookE n G B p cs).obs s := by
  have e : g = s.heap.get? := funext h
  rw [e] <;> rfl
theorem lookup_memS {β : Type} {x : Str} {o : β} : ∀ {l : List (Str × β)}, l.lookup x = some o → (x, o) ∈ l
  | [], h => by cases h
  | (b, u) :: l, h => by
    rw [List.lookup_cons] at h
    split at h
    · rename_i e
      cases h
      rw [beq_iff_eq.mp e]
      exact List.mem_cons_self
    · exact List.mem_cons_of_mem _ (lookup_memS h)
section
variable {P : Program} {w : World} {K : PySem.W.Frag} {mg : Str → Option Value} {G : List (Str × D)} {B : List Str} {p : List DF} {cs : List Str} {h : Heap}
theorem SaysE.hd (c : SaysE G B p cs K) (X : K.In h) (N : h.Ns mainGlobals mg) : Hd P w K mg (wdOf K (p.map (·.x)) cs) G B p := by
  have c1 : hdB K G B p cs = true := congrArg (fun z : AlE => z.1) c.obs
  have c2 : (p.map fun d => He.fnW K d.dd.at_) = p.map fun d => d.dd.val := congrArg (fun z : AlE => z.2) c.obs
  unfold hdB at c1
  simp only [Bool.and_eq_true] at c1
  obtain ⟨⟨h1, h2⟩, h3⟩ := c1
  refine ⟨rfl, fun x d e => ?_, fun x e => ?_, fun i d e => ?_⟩
  · have := List.all_eq_true.mp h1 (x, d) (lookup_memS e)
    dsimp only at this
    split at this
    · rename_i u q
      obtain ⟨v, r, z⟩ := relD_ok this
      exact ⟨v, u, PySem.W.mg_of X N q, r, z⟩
    · cases this
  · have := List.all_eq_true.mp h2 x (by simpa using e)
    exact PySem.W.mg_none_of X N (He.eqO_ok this)
  · have := List.all_eq_true.mp h3 d (List.mem_of_getElem? e)
    simp only [Bool.and_eq_true] at this
    obtain ⟨⟨k1, k2⟩, k3⟩ := this
    have e2 : (p.map fun d => He.fnW K d.dd.at_)[i]? = (p.map fun d => d.dd.val)[i]? := by rw [c2]
    rw [List.getElem?_map, List.getElem?_map, e] at e2
    obtain ⟨fd, F⟩ := He.DefD.funD (Option.some.inj e2) k2
    exact ⟨_, fd, _, PySem.W.mg_of X N (He.eqO_ok k1), F, dvs_ok k3⟩
end
/-- the only argument of the law's def is bound -/
theorem plain_bindsA {K : PySem.W.Frag} {x qual : Str} {params : Arguments} {body : List Stmt} {scope : Scope} {f : Addr} {fd : FuncData} (F : FunD K x qual params body scope [] [] f fd) (hp : plainP params = true) (nd : (params.args.map (·.arg)).Nodup)
    (s : Shared) (us : List Value) (hl : us.length = (params.args.map (·.arg)).length) : BindsTo s fd ⟨us, []⟩ ((params.args.map (·.arg)).zip us) := by
  obtain ⟨oc, od, dV, kV, doc, pm, an, cdv, ct, osl, rfl, _, _, hD, _⟩ := F.ex
  rcases hD with ⟨_, rfl⟩ | ⟨z, _⟩
  · have hl : us.length = params.args.length := by simpa using hl
    obtain ⟨k, e1, e2⟩ := bind_plain (x := x) (qual := qual) (body := body) (scope := scope) (dV := .none) (kV := kV) (doc := doc) (pm := pm) (an := an) (cdv := cdv) (ct := ct) (us := us) (its := []) hp nd (by omega) (by simp) (by simp; omega)
    refine BindsTo.of_eq ?_
    rw [e1]
    have q := e2 none rfl
    simp only [List.drop_nil, List.append_nil] at q
    exact q
  · exact absurd rfl z
/-- all that walk_ev asks -/
theorem law_F {P : Program} {w : World} {G : List (Str × D)} {B : List Str} {p : List DF} {cs : List Str} {L n lv : Nat} {d : DF} {x : Str} (hc : ckP (tabOf G B p) p = true) (hL : p[L]? = some d) (hps : d.ps = [x]) (hds : d.ds = [])
    (hrun : ∀ ns : List Int, ns.length ≤ n → ∃ Wn m, runF (p.map DF.fd) Wn lv L [.loc 0] [.frz (ns.map D.int)] = .ok (.bl true) m) {mg : Str → Option Value} {fa : Addr} {h : Heap} (Y : ∃ K : PySem.W.Frag, K.In h ∧ SaysE G B p cs K) (N : h.Ns mainGlobals mg) (hm : mg d.x = some (.ref fa)) :
    ∃ (K : PySem.W.Frag) (fd : FuncData) (sp : Sp), K.In h ∧ (∀ (s : Shared) (u : Value), BindsTo s fd ⟨[u], []⟩ [(x, u)]) ∧
      (∀ (Hh : Hp) (a : Addr) (ns : List Int), ns.length ≤ n → Only Hh → SqL K Hh a (ns.map V.int) → sp [.ref a] Hh (fun v _ => v = .bl true) fun _ _ _ => False) ∧ ∀ b : Heap, K.In b → b.Ns mainGlobals mg → FnG P w K mg b lv fa fd [x] sp := by
  obtain ⟨K, X, c⟩ := Y
  have H := c.hd (P := P) (w := w) X N
  obtain ⟨f, fd, dvs, m', F, D'⟩ := H.fn L d hL
  have ef := hm.symm.trans m'
  cases ef
  have ll : dvs.length = d.ds.length := (D' [] fun _ => none).length
  have hcd := List.all_eq_true.mp hc d (List.mem_of_getElem? hL)
  unfold ckD at hcd
  simp only [Bool.and_eq_true] at hcd
  obtain ⟨⟨⟨⟨g1, g2⟩, g3⟩, g4⟩, g5⟩ := hcd
  have hd0 : dvs = [] := List.eq_nil_of_length_eq_zero (by rw [ll, hds]; rfl)
  subst hd0
  have hps' : d.args.args.map (·.arg) = [x] := hps
  refine ⟨K, fd, fun vs Hh Q E => ∃ Wn, spF (wdOf K (p.map (·.x)) cs) (runF (p.map DF.fd) Wn lv L) 1 vs Hh Q E, X, fun s u => ?_, fun Hh a ns hl O S => ?_, fun b Xb Nb => ⟨fun Ar out st Hh ars ws xs Qr Er r0 g0 e0 b0 v0 ⟨Wn, s0⟩ => ?_⟩⟩
  · have q := plain_bindsA F g1 (ndB_ok g2) s [u] (by rw [hps']; rfl)
    rw [hps'] at q
    exact q
  · obtain ⟨Wn, m, e⟩ := hrun ns hl
    have hfz : ∃ o, Hh a = some (.frz o (.lst (ns.map V.int))) := by
      rcases S with (z | z) | ⟨o, its, k, e1, e2, _⟩
      · rcases O a with q | ⟨ob, xs, q⟩ <;> (rw [q] at z; cases z)
      · exact z
      · have q := c.no a o e1
        unfold noListB at q
        rw [e2] at q
        simp at q
    obtain ⟨o, hfz⟩ := hfz
    have rvs : ∀ l : List Int, RVs (wdOf K (p.map (·.x)) cs) [a] Hh (l.map V.int) (l.map D.int) := fun l => by
      induction l with
      | nil => exact .nil
      | cons i l ih => exact .cons (.int i) ih
    refine ⟨Wn, [a], [.frz (ns.map D.int)], [.loc 0], ⟨rfl, by simp, fun l u b e1 e2 => ?_⟩, .cons (.loc rfl) .nil, rfl, ?_⟩
    · cases l with
      | zero => cases e1; cases e2; exact ⟨o, _, hfz, rvs ns⟩
      | succ l => cases e1
    · rw [e]
      intro A' H' v _ _ rv
      exact rv.inv_bl
  · have q := sound_p (P := P) (w := w) (base := b) (Wn := Wn) H hc lv L d fa fd [] hL F D'
    rw [hps] at q
    exact q.go Ar out st Hh ars ws xs Qr Er r0 g0 e0 b0 v0 s0
end Ev
set_option Elab.async false
set_option linter.all false
set_option maxRecDepth 100000
/-! EvS: my language's equations, each at its arguments. -/
namespace Ev
open PySem PySem.Spec PyProof.Rows L2
theorem runF_at {p : List FD} {W n k : Nat} {f : FD} {ds : List D} {m : M} (h : p[k]? = some f) : runF p W (n + 1) k ds m = callF (runF p W n) W f ds m := by
  show (match p[k]? with | some f => callF (runF p W n) W f ds m | none => .stuck) = _
  rw [h]
theorem gc_self {d : D} {m : M} : gc m.length d m = (d, m) := by unfold gc; rw [if_pos rfl]
section
variable {fs : Fs} {W i k : Nat} {a b c as : E} {o o' : Bop} {q q' : Cop} {σ : Sl} {m m' : M} {x y z d : D} {ds : List D} {t : Ev.T} {s r : S} {own : List (Str × Nat)}
-- how results go on
theorem n_bind {α β : Type} {a : α} {m : M} {f : α → M → R β} : (R.ok a m).bind f = f a m := rfl
theorem n_bindS {α β : Type} {f : α → M → R β} : (R.stuck : R α).bind f = .stuck := rfl
theorem n_go {α : Type} {a : α} {m : M} {σ : Sl} {f : α → M → R Fl} : (R.ok a m).go σ f = f a m := rfl
theorem n_some {α : Type} {a : α} {m : M} : ofO (some a) m = .ok a m := rfl
theorem n_none {α : Type} {m : M} : (ofO (none : Option α) m) = .stuck := rfl
theorem n_nox {α : Type} {a : α} {m : M} : (R.ok a m).nox = .ok a m := rfl
-- expressions
theorem n_var : (ev fs W (.var i)).v σ m = ofO ((σ[i]?).join) m := rfl
theorem n_gl {x : Str} : (ev fs W (.gl x d)).v σ m = .ok d m := rfl
theorem n_lit : (ev fs W (.lit d)).v σ m = .ok d m := rfl
theorem n_bin : (ev fs W (.bin o a b)).v σ m = ((ev fs W a).v σ m).bind fun x m => ((ev fs W b).v σ m).bind fun y m => binV o m x y := rfl
theorem n_neg : (ev fs W (.neg a)).v σ m = ((ev fs W a).v σ m).bind fun x m => match x with | .int i => .ok (.int (-i)) m | _ => .stuck := rfl
theorem n_not : (ev fs W (.not a)).v σ m = ((ev fs W a).v σ m).bind fun x m => (ofO (truth m x) m).bind fun t m => .ok (.bl (!t)) m := rfl
theorem n_cmp : (ev fs W (.cmp q a b)).v σ m = ((ev fs W a).v σ m).bind fun x m => ((ev fs W b).v σ m).bind fun y m => cmpV q m x y := rfl
theorem n_chn : (ev fs W (.chn q q' a b c)).v σ m = ((ev fs W a).v σ m).bind fun x m => ((ev fs W b).v σ m).bind fun y m => (cmpV q m x y).bind (chnK q' (ev fs W c).v y σ) := rfl
theorem n_chnT {f : Sl → M → R D} : chnK q' f y σ (.bl true) m = (f σ m).bind fun z m => cmpV q' m y z := rfl
theorem n_chnF {f : Sl → M → R D} : chnK q' f y σ (.bl false) m = .ok (.bl false) m := rfl
theorem n_and : (ev fs W (.and a b)).v σ m = ((ev fs W a).v σ m).bind fun x m => (ofO (truth m x) m).bind fun t m => if t then (ev fs W b).v σ m else .ok x m := rfl
theorem n_or : (ev fs W (.or a b)).v σ m = ((ev fs W a).v σ m).bind fun x m => (ofO (truth m x) m).bind fun t m => if t then .ok x m else (ev fs W b).v σ m := rfl
theorem n_ite : (ev fs W (.ite c a b)).v σ m = ((ev fs W c).v σ m).bind fun x m => (ofO (truth m x) m).bind fun t m => if t then (ev fs W a).v σ m else (ev fs W b).v σ m := rfl
theorem n_call {x : Str} : (ev fs W (.call x k as ds)).v σ m = ((ev fs W as).s σ m).bind fun es m => fs k (es ++ ds) m := rfl
theorem n_bi {b : Bi} : (ev fs W (.bi b as)).v σ m = ((ev fs W as).s σ m).bind fun ds m => biV b m ds := rfl
theorem n_biq {b : Bi} : (ev fs W (.biq b a)).v σ m = ((ev fs W a).q σ m).bind fun s m => (ofO (s.all m) m).bind fun p m => biS b m p.1 p.2 := rfl
theorem n_ix : (ev fs W (.ix a b)).v σ m = ((ev fs W a).v σ m).bind fun x m => ((ev fs W b).v σ m).bind fun y m => ixV m x y := rfl
theorem n_sl : (ev fs W (.sl a b c)).v σ m = ((ev fs W a).v σ m).bind fun x m => ((ev fs W b).o σ m).bind fun i m => ((ev fs W c).o σ m).bind fun j m => slV m x i j := rfl
theorem n_srev : (ev fs W (.srev a)).v σ m = ((ev fs W a).v σ m).bind fun x m => revV m x := rfl
theorem n_tup : (ev fs W (.tup as)).v σ m = ((ev fs W as).s σ m).bind tupK := rfl
theorem n_lst : (ev fs W (.lst as)).v σ m = ((ev fs W as).s σ m).bind lstK := rfl
theorem n_lstQ : (ev fs W (.lst as)).q σ m = ((ev fs W as).s σ m).bind lstKq := rfl
theorem n_comp {t : Ev.T} : (ev fs W (.comp own t a c b)).v σ m = (compF W own t (ev fs W a).i (if c.isNil then none else some (ev fs W c).v) (ev fs W b).v σ m).bind lstK := rfl
theorem n_compQ {t : Ev.T} : (ev fs W (.comp own t a c b)).q σ m = (compF W own t (ev fs W a).i (if c.isNil then none else some (ev fs W c).v) (ev fs W b).v σ m).bind lstKq := rfl
theorem n_nil : (ev fs W .nil).s σ m = .ok [] m := rfl
theorem n_nilO : (ev fs W .nil).o σ m = .ok none m := rfl
theorem n_cons : (ev fs W (.cons a as)).s σ m = ((ev fs W a).v σ m).bind fun d m => ((ev fs W as).s σ m).bind fun ds m => .ok (d :: ds) m := rfl
theorem n_star : (ev fs W (.star a as)).s σ m = ((ev fs W a).v σ m).bind fun x m => (ofO (items m x) m).bind fun xs m => ((ev fs W as).s σ m).bind fun ds m => .ok (xs ++ ds) m := rfl
theorem n_seqI : (ev fs W (.seq a)).i σ m = (ev fs W a).q σ m := rfl
theorem n_rg1 : (ev fs W (.range1 a)).i σ m = ((ev fs W a).v σ m).bind rng1K := rfl
theorem n_rg2 : (ev fs W (.range2 a b)).i σ m = ((ev fs W a).v σ m).bind fun x m => ((ev fs W b).v σ m).bind fun y m => rng2K x y m := rfl
theorem n_zip : (ev fs W (.zip a b)).i σ m = ((ev fs W a).v σ m).bind fun x m => ((ev fs W b).v σ m).bind fun y m => (ofO (seqOf m x) m).bind fun s m => (ofO (seqOf m y) m).bind fun t m => .ok (.zip s t) m := rfl
theorem n_enum : (ev fs W (.enum a)).i σ m = ((ev fs W a).v σ m).bind fun x m => (ofO (seqOf m x) m).bind fun s m => .ok (.enum s) m := rfl
-- a sequence by its value
theorem n_varQ : (ev fs W (.var i)).q σ m = ((ev fs W (.var i)).v σ m).bind fun x m => ofO (srcOf m x) m := rfl
theorem n_callQ {x : Str} : (ev fs W (.call x k as ds)).q σ m = ((ev fs W (.call x k as ds)).v σ m).bind fun x m => ofO (srcOf m x) m := rfl
theorem n_ixQ : (ev fs W (.ix a b)).q σ m = ((ev fs W (.ix a b)).v σ m).bind fun x m => ofO (srcOf m x) m := rfl
theorem n_slQ : (ev fs W (.sl a b c)).q σ m = ((ev fs W (.sl a b c)).v σ m).bind fun x m => ofO (srcOf m x) m := rfl
theorem n_srevQ : (ev fs W (.srev a)).q σ m = ((ev fs W (.srev a)).v σ m).bind fun x m => ofO (srcOf m x) m := rfl
theorem n_glQ {x : Str} : (ev fs W (.gl x d)).q σ m = ofO (srcOf m d) m := rfl
theorem n_tupQ : (ev fs W (.tup as)).q σ m = ((ev fs W (.tup as)).v σ m).bind fun x m => ofO (srcOf m x) m := rfl
theorem n_binQ : (ev fs W (.bin o a b)).q σ m = ((ev fs W (.bin o a b)).v σ m).bind fun x m => ofO (srcOf m x) m := rfl
theorem n_biQ {b : Bi} : (ev fs W (.bi b as)).q σ m = ((ev fs W (.bi b as)).v σ m).bind fun x m => ofO (srcOf m x) m := rfl
theorem n_biqQ {b : Bi} : (ev fs W (.biq b a)).q σ m = ((ev fs W (.biq b a)).v σ m).bind fun x m => ofO (srcOf m x) m := rfl
theorem n_iteQ : (ev fs W (.ite c a b)).q σ m = ((ev fs W (.ite c a b)).v σ m).bind fun x m => ofO (srcOf m x) m := rfl
theorem n_litO : (ev fs W (.lit d)).o σ m = ofO (partV d) m := rfl
theorem n_varO : (ev fs W (.var i)).o σ m = ((ev fs W (.var i)).v σ m).bind fun x m => ofO (partV x) m := rfl
theorem n_binO : (ev fs W (.bin o a b)).o σ m = ((ev fs W (.bin o a b)).v σ m).bind fun x m => ofO (partV x) m := rfl
-- values
theorem v_add {i j : Int} : binV .add m (.int i) (.int j) = .ok (.int (i + j)) m := rfl
theorem v_sub {i j : Int} : binV .sub m (.int i) (.int j) = .ok (.int (i - j)) m := rfl
theorem v_mul {i j : Int} : binV .mul m (.int i) (.int j) = if mulOk i j then .ok (.int (i * j)) m else .stuck := rfl
theorem v_fdiv {i j : Int} : binV .fdiv m (.int i) (.int j) = if decide (j = 0) || Builtin.divisionGoesByPylong i j then .stuck else .ok (.int (i.fdiv j)) m := rfl
theorem v_mod {i j : Int} : binV .mod m (.int i) (.int j) = if j = 0 then .stuck else .ok (.int (i.fmod j)) m := rfl
theorem v_pow {i j : Int} : binV .pow m (.int i) (.int j) = if powOk i j then .ok (.int (i ^ j.toNat)) m else .stuck := rfl
theorem v_adds {x y : Str} : binV .add m (.str x) (.str y) = if fits (x.length + y.length) then .ok (.str (x ++ y)) m else .stuck := rfl
theorem v_addt {xs ys : List D} : binV .add m (.tup xs) (.tup ys) = if fits (xs.length + ys.length) then .ok (.tup (xs ++ ys)) m else .stuck := rfl
theorem v_lt {i j : Int} : cmpV .lt m (.int i) (.int j) = .ok (.bl (decide (i < j))) m := rfl
theorem v_le {i j : Int} : cmpV .le m (.int i) (.int j) = .ok (.bl (decide (i ≤ j))) m := rfl
theorem v_gt {i j : Int} : cmpV .gt m (.int i) (.int j) = .ok (.bl (decide (j < i))) m := rfl
theorem v_ge {i j : Int} : cmpV .ge m (.int i) (.int j) = .ok (.bl (decide (j ≤ i))) m := rfl
theorem v_eq {i j : Int} : cmpV .eq m (.int i) (.int j) = .ok (.bl (decide (i = j))) m := rfl
theorem v_ne {i j : Int} : cmpV .ne m (.int i) (.int j) = .ok (.bl (!decide (i = j))) m := rfl
theorem v_eqt {xs ys : List D} : cmpV .eq m (.tup xs) (.tup ys) = (ofO (eqD m (.tup xs) (.tup ys)) m).bind fun c m => .ok (.bl c) m := rfl
theorem v_net {xs ys : List D} : cmpV .ne m (.tup xs) (.tup ys) = (ofO (eqD m (.tup xs) (.tup ys)) m).bind fun c m => .ok (.bl (!c)) m := rfl
theorem v_eqs {x y : Str} : cmpV .eq m (.str x) (.str y) = .ok (.bl (decide (x = y))) m := rfl
theorem v_nes {x y : Str} : cmpV .ne m (.str x) (.str y) = .ok (.bl (!decide (x = y))) m := rfl
theorem v_eql {l k : Nat} : cmpV .eq m (.loc l) (.loc k) = (ofO (eqD m (.loc l) (.loc k)) m).bind fun c m => .ok (.bl c) m := rfl
theorem v_trb {b : Bool} : truth m (.bl b) = some b := rfl
theorem v_abs {i : Int} : biV .abs m [.int i] = .ok (.int (if i < 0 then -i else i)) m := rfl
theorem v_min {i j : Int} : biV .min m [.int i, .int j] = .ok (.int (if j < i then j else i)) m := rfl
theorem v_max {i j : Int} : biV .max m [.int i, .int j] = .ok (.int (if j > i then j else i)) m := rfl
theorem v_int {i : Int} : biV .int m [.int i] = .ok (.int i) m := rfl
theorem v_intb {b : Bool} : biV .int m [.bl b] = .ok (.int (if b then 1 else 0)) m := rfl
theorem v_lent : biV .len m [.tup ds] = .ok (.int ds.length) m := rfl
theorem c_lenl {l : Nat} : biV .len m [.loc l] = (ofO (items m (.loc l)) m).bind fun ds m => .ok (.int ds.length) m := rfl
theorem v_isi {n : String} : biV .isinst m [d, .ty n] = (ofO ((tyN m d).bind fun t0 => L2.kitB t0 n) m).bind fun b m => .ok (.bl b) m := rfl
theorem v_ixt {i : Int} : ixV m (.tup ds) (.int i) = ofO (L2.atI ds i) m := rfl
theorem v_tup : tupK ds m = if fits ds.length then .ok (.tup ds) m else .stuck := rfl
theorem v_lst : lstK ds m = if fits ds.length then .ok (.loc m.length) (m ++ [.lst ds]) else .stuck := rfl
theorem v_lstq : lstKq ds m = if fits ds.length then .ok (.tmp ds) m else .stuck := rfl
-- statements
theorem x_nil : ex fs W .nil σ m = .ok (.nx σ) m := rfl
theorem x_seq : ex fs W (.seq s r) σ m = (ex fs W s σ m).bind (seqK (ex fs W r)) := rfl
theorem x_nx {k : Sl → M → R Fl} : seqK k (.nx σ) m = k σ m := rfl
theorem x_rt {k : Sl → M → R Fl} : seqK k (.ret d) m = .ok (.ret d) m := rfl
theorem x_bk {k : Sl → M → R Fl} : seqK k (.bk σ) m = .ok (.bk σ) m := rfl
theorem x_ct {k : Sl → M → R Fl} : seqK k (.ct σ) m = .ok (.ct σ) m := rfl
theorem x_set : ex fs W (.set i a) σ m = ((ev fs W a).v σ m).go σ (setK i σ) := rfl
theorem x_setK : setK i σ d m = if i < σ.length then .ok (.nx (σ.set i (some d))) m else .stuck := rfl
theorem x_asg : ex fs W (.asg t a) σ m = ((ev fs W a).v σ m).go σ (asgK t σ) := rfl
theorem x_asgK : asgK t σ d m = (ofO (T.put t d σ) m).bind fun σ' m => .ok (.nx σ') m := rfl
theorem x_par {is : List Nat} : ex fs W (.par is as) σ m = ((ev fs W as).s σ m).go σ (parK is σ) := rfl
theorem x_parK {is : List Nat} : parK is σ ds m = (ofO (puts is ds σ) m).bind fun σ' m => .ok (.nx σ') m := rfl
theorem x_sub {v : E} : ex fs W (.sub a b v) σ m = ((ev fs W v).v σ m).go σ fun z m => ((ev fs W a).v σ m).go σ fun x m => ((ev fs W b).v σ m).go σ fun y m => subK σ z x y m := rfl
theorem x_subK : subK σ z x y m = (setV m x y z).bind fun _ m => .ok (.nx σ) m := rfl
theorem x_aug : ex fs W (.aug i o a) σ m = (ofO ((σ[i]?).join) m).bind fun x m => ((ev fs W a).v σ m).go σ fun y m => augK i o σ x y m := rfl
theorem x_augK {p q : Int} : augK i o σ (.int p) (.int q) m = (binV o m (.int p) (.int q)).go σ fun z m => .ok (.nx (σ.set i (some z))) m := rfl
theorem x_drop : ex fs W (.drop a) σ m = ((ev fs W a).v σ m).go σ fun _ m => .ok (.nx σ) m := rfl
theorem x_ite : ex fs W (.ite a s r) σ m = (((ev fs W a).v σ m).bind fun x m => ofO (truth m x) m).go σ fun t m => if t then ex fs W s σ m else ex fs W r σ m := rfl
theorem x_whl : ex fs W (.whl a s) σ m = whileL (tru (ev fs W a).v) (ex fs W s) W σ m := rfl
theorem x_for : ex fs W (.for t a s) σ m = ((ev fs W a).i σ m).go σ fun src m => forS W src (turnF t (ex fs W s)) σ m := rfl
theorem x_ret : ex fs W (.ret a) σ m = ((ev fs W a).v σ m).go σ fun d m => .ok (.ret d) m := rfl
theorem x_retN : ex fs W .retN σ m = .ok (.ret .non) m := rfl
theorem x_brk : ex fs W .brk σ m = .ok (.bk σ) m := rfl
theorem x_cont : ex fs W .cont σ m = .ok (.ct σ) m := rfl
theorem x_pass : ex fs W .pass σ m = .ok (.nx σ) m := rfl
theorem x_tru {f : Sl → M → R D} : tru f σ m = (f σ m).bind fun x m => ofO (truth m x) m := rfl
theorem x_wh {c : Sl → M → R Bool} {f : Sl → M → R Fl} {n : Nat} : whileL c f (n + 1) σ m = (c σ m).go σ fun b m => if b then (f σ m).bind (loopK (whileL c f n)) else .ok (.nx σ) m := rfl
theorem x_lnx {k : Sl → M → R Fl} : loopK k (.nx σ) m = k σ m := rfl
theorem x_lct {k : Sl → M → R Fl} : loopK k (.ct σ) m = k σ m := rfl
theorem x_lbk {k : Sl → M → R Fl} : loopK k (.bk σ) m = .ok (.nx σ) m := rfl
theorem x_lrt {k : Sl → M → R Fl} : loopK k (.ret d) m = .ok (.ret d) m := rfl
theorem x_turn {f : Sl → M → R Fl} : turnF t f d σ m = (ofO (T.put t d σ) m).bind f := rfl
theorem x_putn : T.put (.nm i) d σ = if i < σ.length then some (σ.set i (some d)) else none := rfl
theorem x_putt {ts : Ev.T} : T.put (.tp ts) (.tup ds) σ = T.puts ts ds σ := rfl
theorem x_puts0 : T.puts .nil [] σ = some σ := rfl
theorem x_puts {ts : Ev.T} : T.puts (.cons t ts) (d :: ds) σ = (T.put t d σ).bind (T.puts ts ds) := rfl
theorem x_ps0 : puts [] [] σ = some σ := rfl
theorem x_ps {is : List Nat} : puts (i :: is) (d :: ds) σ = if i < σ.length then puts is ds (σ.set i (some d)) else none := rfl
theorem x_forv {tn : D → Sl → M → R Fl} : forS W (.vals ds) tn σ m = forL tn ds σ m := rfl
theorem x_fort {tn : D → Sl → M → R Fl} : forS W (.tmp ds) tn σ m = forL tn ds σ m := rfl
theorem x_forl0 {tn : D → Sl → M → R Fl} : forL tn [] σ m = .ok (.nx σ) m := rfl
theorem x_forl {tn : D → Sl → M → R Fl} : forL tn (d :: ds) σ m = (tn d σ m).bind (loopK (forL tn ds)) := rfl
-- comprehensions
theorem x_cF {own : List (Str × Nat)} {t : Ev.T} {fi : Sl → M → R Src} {cn : Option (Sl → M → R D)} {e : Sl → M → R D} : compF W own t fi cn e σ m = (fi σ m).bind fun src m => compS W src (turnC own t cn e σ) m := rfl
theorem x_cv {tn : D → M → R (Option D)} : compS W (.vals ds) tn m = compL tn ds [] m := rfl
theorem x_ct' {tn : D → M → R (Option D)} : compS W (.tmp ds) tn m = compL tn ds [] m := rfl
theorem x_cl0 {tn : D → M → R (Option D)} {acc : List D} : compL tn [] acc m = .ok acc m := rfl
theorem x_cl {tn : D → M → R (Option D)} {acc : List D} : compL tn (d :: ds) acc m = (tn d m).bind fun r m => compL tn ds (r.elim acc fun y => acc ++ [y]) m := rfl
theorem x_t0 {own : List (Str × Nat)} {t : Ev.T} {e : Sl → M → R D} : turnC own t none e σ d m = match T.put t d (wipeD σ (own.map (·.2))) with
  | some σ' => (elC e σ' m).nox
  | none => .stuck := rfl
theorem x_t1 {own : List (Str × Nat)} {t : Ev.T} {e cn : Sl → M → R D} : turnC own t (some cn) e σ d m = match T.put t d (wipeD σ (own.map (·.2))) with
  | some σ' => ((tru cn σ' m).bind fun b m => if b then elC e σ' m else .ok none m).nox
  | none => .stuck := rfl
theorem x_w0 : wipeD σ [] = σ := rfl
theorem x_w {r : List Nat} : wipeD σ (i :: r) = (wipeD σ r).set i none := rfl
theorem x_el {e : Sl → M → R D} : elC e σ m = (e σ m).bind fun y m => .ok (some y) m := rfl
theorem v_allv : Src.all m (.vals ds) = some (false, ds) := rfl
theorem v_allt : Src.all m (.tmp ds) = some (true, ds) := rfl
theorem v_srct : srcOf m (.tup ds) = some (.vals ds) := rfl
theorem v_sall {l : Bool} : biS .all m true ds = (ofO (asBls ds) m).bind fun bs m => .ok (.bl (bs.all id)) m := rfl
theorem v_stup {l : Bool} : biS .tuple m l ds = .ok (.tup ds) m := rfl
theorem v_nilB : E.isNil .nil = true := rfl
theorem v_rng1 {i : Int} : rng1K (.int i) m = if rOk i then .ok (.vals (rangeD 0 i.toNat)) m else .stuck := rfl
-- a call
theorem c_call {f : FD} (h : ds.length = f.np) : callF fs W f ds m = match ex fs W f.body (ds.map some ++ List.replicate (f.n - f.np) none) m with
      | .ok (.nx _) m' => .ok (gc m.length .non m').1 (gc m.length .non m').2
      | .ok (.ret d) m' => .ok (gc m.length d m').1 (gc m.length d m').2
      | .ok (.rs x _) m' => if x.fs.all fun p => p.2.undr m.length then .exc x (gc m.length .non m').2 else .exc x m'
      | _ => .stuck := (if_pos h).trans rfl
/-- a body that hands d back and leaves the memory -/
theorem c_ret {f : FD} (h : ds.length = f.np) (e : ex fs W f.body (ds.map some ++ List.replicate (f.n - f.np) none) m = .ok (.ret d) m) : callF fs W f ds m = .ok d m := by
  rw [c_call h, e]
  dsimp only
  rw [gc_self]
end
end Ev
set_option Elab.async false
set_option linter.all false
set_option maxRecDepth 100000
/-! EvT: sizes of ints; fractions as pairs. -/
namespace Ev
open PySem
/-- i has at most k bits -/
def Lt (k : Nat) (i : Int) : Prop := i.natAbs < 2 ^ k
instance {k : Nat} {i : Int} : Decidable (Lt k i) := inferInstanceAs (Decidable (_ < _))
theorem Lt.mono {a b : Nat} {i : Int} (h : Lt a i) (l : a ≤ b) : Lt b i := Nat.lt_of_lt_of_le h (Nat.pow_le_pow_right (by decide) l)
theorem Lt.mul {a b : Nat} {i j : Int} (h : Lt a i) (g : Lt b j) : Lt (a + b) (i * j) := by
  unfold Lt at *
  rw [Int.natAbs_mul, Nat.pow_add]
  exact Nat.mul_lt_mul'' h g
theorem Lt.add {a b : Nat} {i j : Int} (h : Lt a i) (g : Lt b j) : Lt (max a b + 1) (i + j) := by
  have h1 : Lt (max a b) i := h.mono (Nat.le_max_left _ _)
  have g1 : Lt (max a b) j := g.mono (Nat.le_max_right _ _)
  unfold Lt at *
  have := Int.natAbs_add_le i j
  rw [Nat.pow_succ]
  omega
theorem Lt.neg {a : Nat} {i : Int} (h : Lt a i) : Lt a (-i) := by
  unfold Lt at *
  rw [Int.natAbs_neg]; exact h
theorem Lt.sub {a b : Nat} {i j : Int} (h : Lt a i) (g : Lt b j) : Lt (max a b + 1) (i - j) := by
  rw [Int.sub_eq_add_neg]; exact h.add g.neg
theorem Lt.log {a : Nat} {i : Int} (h : Lt a i) : i.natAbs.log2 ≤ a := by
  unfold Lt at h
  by_cases z : i.natAbs = 0
  · rw [z]; simp
  · exact Nat.le_of_lt ((Nat.log2_lt z).mpr h)
theorem Lt.mulOk {a b : Nat} {i j : Int} (h : Lt a i) (g : Lt b j) (l : a + b ≤ 134217000) : Ev.mulOk i j = true := by
  unfold Ev.mulOk
  have h1 := h.log
  have h2 := g.log
  exact Nat.ble_eq_true_of_le (by omega)
theorem Lt.noPy {a : Nat} {i j : Int} (h : Lt a j) (l : a ≤ 8900) : Builtin.divisionGoesByPylong i j = false := by
  unfold Builtin.divisionGoesByPylong
  have h1 := h.log
  have : (if (j == 0) = true then 0 else j.natAbs.log2 / 30 + 1) ≤ 300 := by
    split
    · omega
    · have := Nat.div_le_div_right (c := 30) (Nat.le_trans h1 l)
      omega
  simp only [Bool.and_eq_false_iff, decide_eq_false_iff_not]
  exact .inl (by omega)
theorem Lt.of_le {a : Nat} {i j : Int} (h : Lt a i) (l : j.natAbs ≤ i.natAbs) : Lt a j := Nat.lt_of_le_of_lt l h
/-- a fraction as a pair -/
def fr (q : Rat) : D := .tup [.int q.num, .int q.den]
def Sz (k : Nat) (q : Rat) : Prop := Lt k q.num ∧ Lt k (q.den : Int)
theorem Sz.mono {a b : Nat} {q : Rat} (h : Sz a q) (l : a ≤ b) : Sz b q := ⟨h.1.mono l, h.2.mono l⟩
theorem divInt_num {t b : Int} (hb : b ≠ 0) : (Rat.divInt t b).num = (if b < 0 then -t else t) / (Int.gcd t b : Int) := by
  rw [Rat.num_divInt, Int.gcd_comm b t]
  split
  · rename_i h
    rw [Int.sign_eq_neg_one_of_neg h]
    congr 1; omega
  · rw [Int.sign_eq_one_of_pos (by omega)]
    congr 1; omega
theorem divInt_den {t b : Int} (hb : b ≠ 0) : ((Rat.divInt t b).den : Int) = (if b < 0 then -b else b) / (Int.gcd t b : Int) := by
  rw [Rat.den_divInt, if_neg hb, Int.gcd_comm b t]
  have : (if b < 0 then -b else b) = (b.natAbs : Int) := by split <;> omega
  rw [this]
  exact Int.natCast_ediv _ _
theorem divInt_sz {k : Nat} {t b : Int} (hb : b ≠ 0) (ht : Lt k t) (hb2 : Lt k b) : Sz k (Rat.divInt t b) := by
  have hd : ∀ x : Int, (x / (Int.gcd t b : Int)).natAbs ≤ x.natAbs := fun x => Int.natAbs_ediv_le_natAbs _ _
  refine ⟨?_, ?_⟩
  · rw [divInt_num hb]
    refine Lt.of_le (i := if b < 0 then -t else t) ?_ (hd _)
    split
    · exact ht.neg
    · exact ht
  · rw [divInt_den hb]
    refine Lt.of_le (i := if b < 0 then -b else b) ?_ (hd _)
    split
    · exact hb2.neg
    · exact hb2
theorem den_ne (q : Rat) : (q.den : Int) ≠ 0 := by have := q.den_nz; omega
theorem den_pos (q : Rat) : 0 < (q.den : Int) := by have := q.den_nz; omega
theorem add_divInt (p q : Rat) : p + q = Rat.divInt (p.num * q.den + q.num * p.den) (p.den * q.den) := by
  conv => lhs; rw [← Rat.num_divInt_den p, ← Rat.num_divInt_den q]
  rw [Rat.divInt_add_divInt _ _ (den_ne p) (den_ne q)]
theorem mul_divInt (p q : Rat) : p * q = Rat.divInt (p.num * q.num) (p.den * q.den) := by
  conv => lhs; rw [← Rat.num_divInt_den p, ← Rat.num_divInt_den q]
  rw [Rat.divInt_mul_divInt]
theorem Sz.add {a b : Nat} {p q : Rat} (h : Sz a p) (g : Sz b q) : Sz (a + b + 1) (p + q) := by
  rw [add_divInt]
  refine divInt_sz (Int.mul_ne_zero (den_ne p) (den_ne q)) ?_ ((h.2.mul g.2).mono (by omega))
  exact ((h.1.mul g.2).add ((g.1.mul h.2).mono (b := a + b) (by omega))).mono (by omega)
theorem Sz.mul {a b : Nat} {p q : Rat} (h : Sz a p) (g : Sz b q) : Sz (a + b) (p * q) := by
  rw [mul_divInt]
  exact divInt_sz (Int.mul_ne_zero (den_ne p) (den_ne q)) (h.1.mul g.1) (h.2.mul g.2)
theorem Sz.neg {a : Nat} {q : Rat} (h : Sz a q) : Sz a (-q) := ⟨by rw [Rat.neg_num]; exact h.1.neg, h.2⟩
theorem fr_inj {p q : Rat} (h1 : p.num = q.num) (h2 : (p.den : Int) = q.den) : p = q := by
  have h2 : p.den = q.den := by omega
  exact Rat.ext h1 h2
end Ev
set_option Elab.async false
set_option linter.all false
set_option maxRecDepth 100000
set_option maxHeartbeats 0
namespace K21
open PySem PySem.Spec PyProof.Rows L2 Ev
def top (i : Nat) : Stmt := PySem.Challenge.pw_onefitsall_k21_whole_numbers.main.body.getD i (.Pass ⟨0, 0, 0, 0⟩)
def b0 : S := (.seq (.ret (.and (.bi .isinst (.cons (.var 0) (.cons (.gl "int" (.ty "int")) .nil))) (.not (.bi .isinst (.cons (.var 0) (.cons (.gl "bool" (.ty "bool")) .nil))))))
  .nil)
def d0 : DF := ⟨"is_integer", defArgs (top 10), defBody (top 10), defScope (top 10), [], ["value"], b0⟩
def b1 : S := (.seq (.par [0, 1] (.cons (.bi .abs (.cons (.var 0) .nil)) (.cons (.bi .abs (.cons (.var 1) .nil)) .nil)))
  (.seq (.whl (.cmp .gt (.var 1) (.lit (.int 0)))
  (.seq (.par [0, 1] (.cons (.var 1) (.cons (.bin .mod (.var 0) (.var 1)) .nil)))
  .nil))
  (.seq (.ret (.var 0))
  .nil)))
def d1 : DF := ⟨"common_divisor", defArgs (top 11), defBody (top 11), defScope (top 11), [], ["one", "other"], b1⟩
def b2 : S := (.seq (.ite (.or (.not (.bi .isinst (.cons (.var 0) (.cons (.gl "tuple" (.ty "tuple")) .nil)))) (.or (.cmp .ne (.bi .len (.cons (.var 0) .nil)) (.lit (.int 2))) (.not (.biq .all (.comp [("one", 1)] (.nm 1) (.seq (.var 0)) .nil (.call "is_integer" 0 (.cons (.var 1) .nil) []))))))
  (.seq (.ret (.lit (.bl false)))
  .nil)
  .nil)
  (.seq (.ret (.and (.cmp .ge (.ix (.var 0) (.lit (.int 1))) (.lit (.int 1))) (.cmp .eq (.call "common_divisor" 1 (.cons (.ix (.var 0) (.lit (.int 0))) (.cons (.ix (.var 0) (.lit (.int 1))) .nil)) []) (.lit (.int 1)))))
  .nil))
def d2 : DF := ⟨"is_number", defArgs (top 12), defBody (top 12), defScope (top 12), [], ["value", "one"], b2⟩
def b3 : S := (.seq (.ite (.cmp .lt (.var 1) (.lit (.int 0)))
  (.seq (.par [0, 1] (.cons (.bin .sub (.lit (.int 0)) (.var 0)) (.cons (.bin .sub (.lit (.int 0)) (.var 1)) .nil)))
  .nil)
  .nil)
  (.seq (.set 2 (.call "common_divisor" 1 (.cons (.var 0) (.cons (.var 1) .nil)) []))
  (.seq (.ret (.tup (.cons (.bin .fdiv (.var 0) (.var 2)) (.cons (.bin .fdiv (.var 1) (.var 2)) .nil))))
  .nil)))
def d3 : DF := ⟨"reduced", defArgs (top 13), defBody (top 13), defScope (top 13), [], ["top", "bottom", "divisor"], b3⟩
def b4 : S := (.seq (.ite (.or (.not (.call "is_integer" 0 (.cons (.var 0) .nil) [])) (.cmp .ge (.bi .abs (.cons (.var 0) .nil)) (.gl "MOST_PASSED" (.int 10000000000000000000000000000000000000000))))
  (.seq (.drop (.rev .nil))
  .nil)
  .nil)
  (.seq (.ite (.or (.not (.call "is_integer" 0 (.cons (.var 1) .nil) [])) (.or (.cmp .ge (.bi .abs (.cons (.var 1) .nil)) (.gl "MOST_PASSED" (.int 10000000000000000000000000000000000000000))) (.cmp .eq (.var 1) (.lit (.int 0)))))
  (.seq (.drop (.rev .nil))
  .nil)
  .nil)
  (.seq (.ret (.call "reduced" 3 (.cons (.var 0) (.cons (.var 1) .nil)) []))
  .nil)))
def d4 : DF := ⟨"number", defArgs (top 14), defBody (top 14), defScope (top 14), [(.int 1)], ["top", "bottom"], b4⟩
def b5 : S := (.seq (.ite (.not (.call "is_number" 2 (.cons (.var 0) .nil) []))
  (.seq (.drop (.rev .nil))
  .nil)
  .nil)
  .nil)
def d5 : DF := ⟨"require_number", defArgs (top 15), defBody (top 15), defScope (top 15), [], ["value"], b5⟩
def b6 : S := (.seq (.ite (.or (.not (.call "is_integer" 0 (.cons (.var 0) .nil) [])) (.not (.chn .le .le (.var 1) (.var 0) (.var 2))))
  (.seq (.drop (.rev .nil))
  .nil)
  .nil)
  .nil)
def d6 : DF := ⟨"require_count", defArgs (top 16), defBody (top 16), defScope (top 16), [(.int 0), (.int 60)], ["value", "least", "most"], b6⟩
def b7 : S := (.seq (.ite (.chn .eq .eq (.ix (.var 0) (.lit (.int 1))) (.ix (.var 1) (.lit (.int 1))) (.lit (.int 1)))
  (.seq (.ret (.tup (.cons (.bin .add (.ix (.var 0) (.lit (.int 0))) (.ix (.var 1) (.lit (.int 0)))) (.cons (.lit (.int 1)) .nil))))
  .nil)
  .nil)
  (.seq (.ret (.call "reduced" 3 (.cons (.bin .add (.bin .mul (.ix (.var 0) (.lit (.int 0))) (.ix (.var 1) (.lit (.int 1)))) (.bin .mul (.ix (.var 1) (.lit (.int 0))) (.ix (.var 0) (.lit (.int 1))))) (.cons (.bin .mul (.ix (.var 0) (.lit (.int 1))) (.ix (.var 1) (.lit (.int 1)))) .nil)) []))
  .nil))
def d7 : DF := ⟨"added", defArgs (top 17), defBody (top 17), defScope (top 17), [], ["one", "other"], b7⟩
def b8 : S := (.seq (.ite (.chn .eq .eq (.ix (.var 0) (.lit (.int 1))) (.ix (.var 1) (.lit (.int 1))) (.lit (.int 1)))
  (.seq (.ret (.tup (.cons (.bin .mul (.ix (.var 0) (.lit (.int 0))) (.ix (.var 1) (.lit (.int 0)))) (.cons (.lit (.int 1)) .nil))))
  .nil)
  .nil)
  (.seq (.ret (.call "reduced" 3 (.cons (.bin .mul (.ix (.var 0) (.lit (.int 0))) (.ix (.var 1) (.lit (.int 0)))) (.cons (.bin .mul (.ix (.var 0) (.lit (.int 1))) (.ix (.var 1) (.lit (.int 1)))) .nil)) []))
  .nil))
def d8 : DF := ⟨"multiplied", defArgs (top 18), defBody (top 18), defScope (top 18), [], ["one", "other"], b8⟩
def b9 : S := (.seq (.ret (.tup (.cons (.bin .sub (.lit (.int 0)) (.ix (.var 0) (.lit (.int 0)))) (.cons (.ix (.var 0) (.lit (.int 1))) .nil))))
  .nil)
def d9 : DF := ⟨"opposite", defArgs (top 19), defBody (top 19), defScope (top 19), [], ["one"], b9⟩
def b10 : S := (.seq (.ret (.call "reduced" 3 (.cons (.bin .mul (.ix (.var 0) (.lit (.int 0))) (.ix (.var 1) (.lit (.int 1)))) (.cons (.bin .mul (.ix (.var 0) (.lit (.int 1))) (.ix (.var 1) (.lit (.int 0)))) .nil)) []))
  .nil)
def d10 : DF := ⟨"divided", defArgs (top 20), defBody (top 20), defScope (top 20), [], ["one", "other"], b10⟩
def b11 : S := (.seq (.set 1 (.gl "NOUGHT" (.tup [(.int 0), (.int 1)])))
  (.seq (.for (.nm 2) (.seq (.var 0))
  (.seq (.set 1 (.call "added" 7 (.cons (.var 1) (.cons (.var 2) .nil)) []))
  .nil))
  (.seq (.ret (.var 1))
  .nil)))
def d11 : DF := ⟨"sum_of", defArgs (top 21), defBody (top 21), defScope (top 21), [], ["numbers", "found", "one"], b11⟩
def b12 : S := (.seq (.drop (.call "require_number" 5 (.cons (.var 0) .nil) []))
  (.seq (.drop (.call "require_number" 5 (.cons (.var 1) .nil) []))
  (.seq (.ret (.call "added" 7 (.cons (.var 0) (.cons (.var 1) .nil)) []))
  .nil)))
def d12 : DF := ⟨"plus", defArgs (top 22), defBody (top 22), defScope (top 22), [], ["one", "other"], b12⟩
def b13 : S := (.seq (.drop (.call "require_number" 5 (.cons (.var 0) .nil) []))
  (.seq (.drop (.call "require_number" 5 (.cons (.var 1) .nil) []))
  (.seq (.ret (.call "added" 7 (.cons (.var 0) (.cons (.call "opposite" 9 (.cons (.var 1) .nil) []) .nil)) []))
  .nil)))
def d13 : DF := ⟨"minus", defArgs (top 23), defBody (top 23), defScope (top 23), [], ["one", "other"], b13⟩
def b14 : S := (.seq (.drop (.call "require_number" 5 (.cons (.var 0) .nil) []))
  (.seq (.drop (.call "require_number" 5 (.cons (.var 1) .nil) []))
  (.seq (.ret (.call "multiplied" 8 (.cons (.var 0) (.cons (.var 1) .nil)) []))
  .nil)))
def d14 : DF := ⟨"times", defArgs (top 24), defBody (top 24), defScope (top 24), [], ["one", "other"], b14⟩
def b15 : S := (.seq (.drop (.call "require_number" 5 (.cons (.var 0) .nil) []))
  (.seq (.drop (.call "require_number" 5 (.cons (.var 1) .nil) []))
  (.seq (.ite (.cmp .eq (.var 1) (.gl "NOUGHT" (.tup [(.int 0), (.int 1)])))
  (.seq (.drop (.rev .nil))
  .nil)
  .nil)
  (.seq (.ret (.call "divided" 10 (.cons (.var 0) (.cons (.var 1) .nil)) []))
  .nil))))
def d15 : DF := ⟨"over", defArgs (top 25), defBody (top 25), defScope (top 25), [], ["one", "other"], b15⟩
def b16 : S := (.seq (.drop (.call "require_number" 5 (.cons (.var 0) .nil) []))
  (.seq (.drop (.call "require_number" 5 (.cons (.var 1) .nil) []))
  (.seq (.par [2, 3] (.cons (.bin .mul (.ix (.var 0) (.lit (.int 0))) (.ix (.var 1) (.lit (.int 1)))) (.cons (.bin .mul (.ix (.var 1) (.lit (.int 0))) (.ix (.var 0) (.lit (.int 1)))) .nil)))
  (.seq (.ret (.bin .sub (.bi .int (.cons (.cmp .gt (.var 2) (.var 3)) .nil)) (.bi .int (.cons (.cmp .lt (.var 2) (.var 3)) .nil))))
  .nil))))
def d16 : DF := ⟨"compared", defArgs (top 26), defBody (top 26), defScope (top 26), [], ["one", "other", "left", "right"], b16⟩
def b17 : S := (.seq (.ite (.or (.not (.bi .isinst (.cons (.var 0) (.cons (.gl "tuple" (.ty "tuple")) .nil)))) (.not (.biq .all (.comp [("one", 1)] (.nm 1) (.seq (.var 0)) .nil (.call "is_number" 2 (.cons (.var 1) .nil) [])))))
  (.seq (.drop (.rev .nil))
  .nil)
  .nil)
  (.seq (.ret (.call "sum_of" 11 (.cons (.var 0) .nil) []))
  .nil))
def d17 : DF := ⟨"total", defArgs (top 27), defBody (top 27), defScope (top 27), [], ["numbers", "one"], b17⟩
def b18 : S := (.seq (.drop (.call "require_number" 5 (.cons (.var 0) .nil) []))
  (.seq (.drop (.call "require_count" 6 (.cons (.var 1) .nil) [(.int 0), (.int 60)]))
  (.seq (.set 2 (.gl "ONE" (.tup [(.int 1), (.int 1)])))
  (.seq (.for (.nm 3) (.range1 (.var 1))
  (.seq (.set 2 (.call "multiplied" 8 (.cons (.var 2) (.cons (.var 0) .nil)) []))
  .nil))
  (.seq (.ret (.var 2))
  .nil)))))
def d18 : DF := ⟨"power", defArgs (top 28), defBody (top 28), defScope (top 28), [], ["one", "many", "found", "_"], b18⟩
def b19 : S := (.seq (.set 2 (.ite (.cmp .lt (.var 1) (.bi .len (.cons (.var 0) .nil))) (.bi .int (.cons (.ix (.var 0) (.var 1)) .nil)) (.bin .add (.bin .mul (.lit (.int 131)) (.var 1)) (.lit (.int 37)))))
  (.seq (.set 3 (.bin .mod (.bi .int (.cons (.bi .abs (.cons (.var 2) .nil)) .nil)) (.bin .pow (.bin .pow (.lit (.int 10)) (.lit (.int 53))) (.lit (.int 6)))))
  (.seq (.set 4 (.bin .add (.bin .add (.bin .add (.bin .mul (.bin .mod (.var 3) (.lit (.int 2305843009213693907))) (.lit (.int 73))) (.bin .mul (.lit (.int 619)) (.var 1))) (.bin .mul (.lit (.int 41)) (.bi .int (.cons (.cmp .lt (.var 2) (.lit (.int 0))) .nil)))) (.lit (.int 17))))
  (.seq (.ret (.lst (.cons (.bi .max (.cons (.lit (.int 0)) (.cons (.bin .sub (.var 3) (.bin .pow (.lit (.int 10)) (.lit (.int 16)))) .nil))) (.cons (.var 4) (.cons (.lit (.int 0)) .nil)))))
  .nil))))
def d19 : DF := ⟨"_law_dice", defArgs (top 30), defBody (top 30), defScope (top 30), [], ["script", "spot", "cell", "great", "seed"], b19⟩
def b20 : S := (.seq (.ite (.cmp .gt (.ix (.var 0) (.lit (.int 0))) (.lit (.int 0)))
  (.seq (.set 2 (.bin .mod (.ix (.var 0) (.lit (.int 0))) (.var 1)))
  (.seq (.sub (.var 0) (.lit (.int 0)) (.bin .fdiv (.ix (.var 0) (.lit (.int 0))) (.var 1)))
  (.seq (.ret (.bi .int (.cons (.var 2) .nil)))
  .nil)))
  .nil)
  (.seq (.sub (.var 0) (.lit (.int 2)) (.bin .add (.ix (.var 0) (.lit (.int 2))) (.lit (.int 1))))
  (.seq (.set 3 (.bin .mod (.bin .add (.ix (.var 0) (.lit (.int 1))) (.bin .mul (.lit (.int 49979687)) (.ix (.var 0) (.lit (.int 2))))) (.lit (.int 2305843009213693951))))
  (.seq (.set 4 (.bin .add (.bin .mul (.bin .mod (.bin .add (.bin .mul (.var 3) (.var 3)) (.bin .mul (.lit (.int 131)) (.ix (.var 0) (.lit (.int 2))))) (.lit (.int 2305843009213693921))) (.lit (.int 32452843))) (.var 3)))
  (.seq (.ret (.bin .mod (.bi .int (.cons (.bin .fdiv (.var 4) (.lit (.int 65587))) .nil)) (.var 1)))
  .nil)))))
def d20 : DF := ⟨"_law_roll", defArgs (top 31), defBody (top 31), defScope (top 31), [], ["dice", "many", "found", "one", "two"], b20⟩
def b21 : S := (.seq (.ret (.ix (.var 1) (.call "_law_roll" 20 (.cons (.var 0) (.cons (.bi .len (.cons (.var 1) .nil)) .nil)) [])))
  .nil)
def d21 : DF := ⟨"_law_pick", defArgs (top 32), defBody (top 32), defScope (top 32), [], ["dice", "items"], b21⟩
def b22 : S := (.seq (.par [2, 3] (.cons (.bi .abs (.cons (.var 0) .nil)) (.cons (.bi .abs (.cons (.var 1) .nil)) .nil)))
  (.seq (.whl (.cmp .gt (.var 3) (.lit (.int 0)))
  (.seq (.par [2, 3] (.cons (.var 3) (.cons (.bin .mod (.var 2) (.var 3)) .nil)))
  .nil))
  (.seq (.set 4 (.ite (.cmp .lt (.var 1) (.lit (.int 0))) (.neg (.lit (.int 1))) (.lit (.int 1))))
  (.seq (.ret (.tup (.cons (.bin .fdiv (.bin .mul (.var 4) (.var 0)) (.var 2)) (.cons (.bin .fdiv (.bin .mul (.var 4) (.var 1)) (.var 2)) .nil))))
  .nil))))
def d22 : DF := ⟨"_law_fr", defArgs (top 33), defBody (top 33), defScope (top 33), [], ["top", "bottom", "one", "other", "sign"], b22⟩
def b23 : S := (.seq (.ret (.call "_law_fr" 22 (.cons (.bin .add (.bin .mul (.ix (.var 0) (.lit (.int 0))) (.ix (.var 1) (.lit (.int 1)))) (.bin .mul (.ix (.var 1) (.lit (.int 0))) (.ix (.var 0) (.lit (.int 1))))) (.cons (.bin .mul (.ix (.var 0) (.lit (.int 1))) (.ix (.var 1) (.lit (.int 1)))) .nil)) []))
  .nil)
def d23 : DF := ⟨"_law_plus", defArgs (top 34), defBody (top 34), defScope (top 34), [], ["one", "other"], b23⟩
def b24 : S := (.seq (.ret (.call "_law_fr" 22 (.cons (.bin .mul (.ix (.var 0) (.lit (.int 0))) (.ix (.var 1) (.lit (.int 0)))) (.cons (.bin .mul (.ix (.var 0) (.lit (.int 1))) (.ix (.var 1) (.lit (.int 1)))) .nil)) []))
  .nil)
def d24 : DF := ⟨"_law_times", defArgs (top 35), defBody (top 35), defScope (top 35), [], ["one", "other"], b24⟩
def b25 : S := (.seq (.ret (.call "_law_fr" 22 (.cons (.bin .sub (.bin .mul (.ix (.var 0) (.lit (.int 0))) (.ix (.var 1) (.lit (.int 1)))) (.bin .mul (.ix (.var 1) (.lit (.int 0))) (.ix (.var 0) (.lit (.int 1))))) (.cons (.bin .mul (.ix (.var 0) (.lit (.int 1))) (.ix (.var 1) (.lit (.int 1)))) .nil)) []))
  .nil)
def d25 : DF := ⟨"_law_minus", defArgs (top 36), defBody (top 36), defScope (top 36), [], ["one", "other"], b25⟩
def b26 : S := (.seq (.set 1 (.call "_law_pick" 21 (.cons (.var 0) (.cons (.lst (.cons (.lit (.int 10)) (.cons (.lit (.int 10)) (.cons (.lit (.int 10)) (.cons (.lit (.int 100)) (.cons (.bin .pow (.lit (.int 10)) (.lit (.int 6))) (.cons (.bin .pow (.lit (.int 10)) (.lit (.int 19))) .nil))))))) .nil)) []))
  (.seq (.ret (.bin .mul (.bin .add (.lit (.int 1)) (.call "_law_roll" 20 (.cons (.var 0) (.cons (.var 1) .nil)) [])) (.call "_law_pick" 21 (.cons (.var 0) (.cons (.lst (.cons (.lit (.int 1)) (.cons (.neg (.lit (.int 1))) .nil))) .nil)) [])))
  .nil))
def d26 : DF := ⟨"_law_integer", defArgs (top 37), defBody (top 37), defScope (top 37), [], ["dice", "bound"], b26⟩
def b27 : S := (.seq (.ite (.cmp .eq (.call "_law_roll" 20 (.cons (.var 0) (.cons (.lit (.int 6)) .nil)) []) (.lit (.int 0)))
  (.seq (.ret (.tup (.cons (.lit (.int 0)) (.cons (.lit (.int 1)) .nil))))
  .nil)
  .nil)
  (.seq (.ret (.call "_law_fr" 22 (.cons (.call "_law_integer" 26 (.cons (.var 0) .nil) []) (.cons (.bi .abs (.cons (.call "_law_integer" 26 (.cons (.var 0) .nil) []) .nil)) .nil)) []))
  .nil))
def d27 : DF := ⟨"_law_drawn", defArgs (top 38), defBody (top 38), defScope (top 38), [], ["dice"], b27⟩
def b28s0 : S := (.par [1, 2, 3] (.cons (.call "_law_drawn" 27 (.cons (.var 0) .nil) []) (.cons (.call "_law_drawn" 27 (.cons (.var 0) .nil) []) (.cons (.call "_law_drawn" 27 (.cons (.var 0) .nil) []) .nil))))
def b28s1 : S := (.set 4 (.lst (.cons (.call "plus" 12 (.cons (.var 1) (.cons (.var 2) .nil)) []) (.cons (.call "minus" 13 (.cons (.var 1) (.cons (.var 2) .nil)) []) (.cons (.call "times" 14 (.cons (.var 1) (.cons (.var 2) .nil)) []) (.cons (.call "plus" 12 (.cons (.call "minus" 13 (.cons (.var 1) (.cons (.var 2) .nil)) []) (.cons (.var 2) .nil)) []) .nil))))))
def b28s2 : S := (.ite (.cmp .ne (.bi .repr (.cons (.var 4) .nil)) (.bi .repr (.cons (.lst (.cons (.call "_law_plus" 23 (.cons (.var 1) (.cons (.var 2) .nil)) []) (.cons (.call "_law_minus" 25 (.cons (.var 1) (.cons (.var 2) .nil)) []) (.cons (.call "_law_times" 24 (.cons (.var 1) (.cons (.var 2) .nil)) []) (.cons (.var 1) .nil))))) .nil)))
  (.seq (.ret (.lit (.bl false)))
  .nil)
  .nil)
def b28s3 : S := (.ite (.cmp .ne (.ix (.var 2) (.lit (.int 0))) (.lit (.int 0)))
  (.seq (.set 5 (.call "_law_fr" 22 (.cons (.bin .mul (.ix (.var 1) (.lit (.int 0))) (.ix (.var 2) (.lit (.int 1)))) (.cons (.bin .mul (.ix (.var 1) (.lit (.int 1))) (.ix (.var 2) (.lit (.int 0)))) .nil)) []))
  (.seq (.ite (.or (.cmp .ne (.bi .repr (.cons (.call "over" 15 (.cons (.var 1) (.cons (.var 2) .nil)) []) .nil)) (.bi .repr (.cons (.var 5) .nil))) (.cmp .ne (.call "times" 14 (.cons (.call "over" 15 (.cons (.var 1) (.cons (.var 2) .nil)) []) (.cons (.var 2) .nil)) []) (.var 1)))
  (.seq (.ret (.lit (.bl false)))
  .nil)
  .nil)
  .nil))
  .nil)
def b28s4 : S := (.par [6, 7] (.cons (.bin .mul (.ix (.var 1) (.lit (.int 0))) (.ix (.var 2) (.lit (.int 1)))) (.cons (.bin .mul (.ix (.var 2) (.lit (.int 0))) (.ix (.var 1) (.lit (.int 1)))) .nil)))
def b28s5 : S := (.ite (.or (.cmp .ne (.call "compared" 16 (.cons (.var 1) (.cons (.var 2) .nil)) []) (.bin .sub (.bi .int (.cons (.cmp .gt (.var 6) (.var 7)) .nil)) (.bi .int (.cons (.cmp .lt (.var 6) (.var 7)) .nil)))) (.cmp .ne (.call "compared" 16 (.cons (.var 1) (.cons (.var 1) .nil)) []) (.lit (.int 0))))
  (.seq (.ret (.lit (.bl false)))
  .nil)
  .nil)
def b28s6 : S := (.ite (.cmp .ne (.call "times" 14 (.cons (.call "plus" 12 (.cons (.var 1) (.cons (.var 2) .nil)) []) (.cons (.var 3) .nil)) []) (.call "plus" 12 (.cons (.call "times" 14 (.cons (.var 1) (.cons (.var 3) .nil)) []) (.cons (.call "times" 14 (.cons (.var 2) (.cons (.var 3) .nil)) []) .nil)) []))
  (.seq (.ret (.lit (.bl false)))
  .nil)
  .nil)
def b28s7 : S := (.par [8, 5] (.cons (.comp [("turn", 11)] (.nm 11) (.range1 (.call "_law_roll" 20 (.cons (.var 0) (.cons (.lit (.int 6)) .nil)) [])) .nil (.call "_law_drawn" 27 (.cons (.var 0) .nil) [])) (.cons (.tup (.cons (.lit (.int 0)) (.cons (.lit (.int 1)) .nil))) .nil)))
def b28s8 : S := (.for (.nm 9) (.seq (.var 8))
  (.seq (.set 5 (.call "_law_plus" 23 (.cons (.var 5) (.cons (.var 9) .nil)) []))
  .nil))
def b28s9 : S := (.ite (.or (.cmp .ne (.call "total" 17 (.cons (.biq .tuple (.var 8)) .nil) []) (.var 5)) (.cmp .ne (.call "total" 17 (.cons (.biq .tuple (.srev (.var 8))) .nil) []) (.var 5)))
  (.seq (.ret (.lit (.bl false)))
  .nil)
  .nil)
def b28s10 : S := (.par [10, 5] (.cons (.call "_law_roll" 20 (.cons (.var 0) (.cons (.lit (.int 7)) .nil)) []) (.cons (.tup (.cons (.lit (.int 1)) (.cons (.lit (.int 1)) .nil))) .nil)))
def b28s11 : S := (.for (.nm 11) (.range1 (.var 10))
  (.seq (.set 5 (.call "_law_times" 24 (.cons (.var 5) (.cons (.var 1) .nil)) []))
  .nil))
def b28s12 : S := (.ite (.or (.cmp .ne (.call "power" 18 (.cons (.var 1) (.cons (.var 10) .nil)) []) (.var 5)) (.cmp .ne (.call "power" 18 (.cons (.var 1) (.cons (.lit (.int 0)) .nil)) []) (.tup (.cons (.lit (.int 1)) (.cons (.lit (.int 1)) .nil)))))
  (.seq (.ret (.lit (.bl false)))
  .nil)
  .nil)
def b28s13 : S := (.par [12, 13] (.cons (.call "_law_pick" 21 (.cons (.var 0) (.cons (.lst (.cons (.lit (.int 0)) (.cons (.call "_law_integer" 26 (.cons (.var 0) .nil) []) .nil))) .nil)) []) (.cons (.call "_law_integer" 26 (.cons (.var 0) .nil) []) .nil)))
def b28s14 : S := (.ret (.and (.cmp .eq (.call "number" 4 (.cons (.var 12) (.cons (.var 13) .nil)) []) (.call "_law_fr" 22 (.cons (.var 12) (.cons (.var 13) .nil)) [])) (.cmp .eq (.bi .repr (.cons (.call "number" 4 (.cons (.var 12) .nil) [(.int 1)]) .nil)) (.bi .repr (.cons (.tup (.cons (.var 12) (.cons (.lit (.int 1)) .nil))) .nil)))))
def b28 : S := (.seq b28s0 (.seq b28s1 (.seq b28s2 (.seq b28s3 (.seq b28s4 (.seq b28s5 (.seq b28s6 (.seq b28s7 (.seq b28s8 (.seq b28s9 (.seq b28s10 (.seq b28s11 (.seq b28s12 (.seq b28s13 (.seq b28s14 .nil)))))))))))))))
def d28 : DF := ⟨"_law_right", defArgs (top 39), defBody (top 39), defScope (top 39), [], ["dice", "one", "other", "third", "told", "due", "left", "right", "row", "item", "many", "turn", "top", "bottom"], b28⟩
def b29s0 : S := (.for (.nm 1) (.range1 (.bi .max (.cons (.lit (.int 1)) (.cons (.bi .min (.cons (.lit (.int 6)) (.cons (.bi .len (.cons (.var 0) .nil)) .nil))) .nil))))
  (.seq (.set 2 (.call "_law_dice" 19 (.cons (.var 0) (.cons (.var 1) .nil)) []))
  (.seq (.for (.nm 3) (.range1 (.lit (.int 3)))
  (.seq (.ite (.not (.call "_law_right" 28 (.cons (.var 2) .nil) []))
  (.seq (.ret (.lit (.bl false)))
  .nil)
  .nil)
  .nil))
  .nil)))
def b29s1 : S := (.set 4 (.tup (.cons (.bin .add (.bin .pow (.lit (.int 10)) (.lit (.int 60))) (.lit (.int 1))) (.cons (.bin .add (.bin .pow (.lit (.int 10)) (.lit (.int 59))) (.lit (.int 3))) .nil))))
def b29s2 : S := (.set 5 (.lst (.cons (.cmp .eq (.call "plus" 12 (.cons (.var 4) (.cons (.tup (.cons (.lit (.int 1)) (.cons (.lit (.int 3)) .nil))) .nil)) []) (.call "_law_plus" 23 (.cons (.var 4) (.cons (.tup (.cons (.lit (.int 1)) (.cons (.lit (.int 3)) .nil))) .nil)) [])) (.cons (.cmp .eq (.call "power" 18 (.cons (.tup (.cons (.neg (.lit (.int 1))) (.cons (.lit (.int 2)) .nil))) (.cons (.lit (.int 60)) .nil)) []) (.tup (.cons (.lit (.int 1)) (.cons (.lit (.int 1152921504606846976)) .nil)))) .nil))))
def b29s3 : S := (.set 5 (.bin .add (.var 5) (.lst (.cons (.call "number" 4 (.cons (.bin .pow (.lit (.int 10)) (.lit (.int 39))) (.cons (.neg (.bin .pow (.lit (.int 10)) (.lit (.int 39)))) .nil)) []) (.cons (.call "number" 4 (.cons (.neg (.lit (.int 6))) (.cons (.lit (.int 4)) .nil)) []) (.cons (.call "total" 17 (.cons (.tup .nil) .nil) []) (.cons (.call "compared" 16 (.cons (.tup (.cons (.neg (.lit (.int 1))) (.cons (.lit (.int 2)) .nil))) (.cons (.tup (.cons (.neg (.lit (.int 1))) (.cons (.lit (.int 3)) .nil))) .nil)) []) .nil)))))))
def b29s4 : S := (.ret (.cmp .eq (.var 5) (.lst (.cons (.lit (.bl true)) (.cons (.lit (.bl true)) (.cons (.tup (.cons (.neg (.lit (.int 1))) (.cons (.lit (.int 1)) .nil))) (.cons (.tup (.cons (.neg (.lit (.int 3))) (.cons (.lit (.int 2)) .nil))) (.cons (.tup (.cons (.lit (.int 0)) (.cons (.lit (.int 1)) .nil))) (.cons (.neg (.lit (.int 1))) .nil)))))))))
def b29 : S := (.seq b29s0 (.seq b29s1 (.seq b29s2 (.seq b29s3 (.seq b29s4 .nil)))))
def d29 : DF := ⟨"law", defArgs (top 40), defBody (top 40), defScope (top 40), [], ["script", "spot", "dice", "turn", "great", "told"], b29⟩
def P : List DF := ([d0, d1, d2, d3, d4, d5, d6, d7, d8, d9, d10, d11, d12, d13, d14, d15, d16, d17, d18, d19, d20, d21, d22, d23, d24, d25, d26, d27, d28, d29] : List DF)
def G : List (Str × D) := [("MOST_PASSED", (.int 10000000000000000000000000000000000000000)), ("NOUGHT", (.tup [(.int 0), (.int 1)])), ("ONE", (.tup [(.int 1), (.int 1)]))]
def B : List Str := ["abs", "all", "bool", "int", "isinstance", "len", "max", "min", "range", "repr", "tuple"]
def cs : List Str := ["StudyError", "InvalidFraction", "InvalidCount", "Refused"]
theorem checked : ckP (tabOf G B P) P = true := by decide +kernel
abbrev R : PySem.W.OpenRow := PySem.W.OpenLaw.row PySem.Challenge.rw_onefitsall_k21_whole_numbers
abbrev qv : Program := PySem.W.view R.prog [40]
abbrev hk : PySem.W.Hook := hookE 5 G B P cs
def ob (s : PySem.W.SharedT) : AlE := obsEG 5 G B P cs (HandSHeadRun.getT s)
theorem ob_eq (s : PySem.W.SharedT) : ob s = hk.obs s.abs := obsEG_eq (HandSHeadRun.getT_eq s)
def names : List PySem.Str := (["StudyError", "InvalidFraction", "InvalidCount", "Refused", "NOUGHT", "ONE", "MAX_COUNT", "MOST_PASSED", "is_integer", "common_divisor", "is_number", "reduced", "number", "require_number", "require_count", "added", "multiplied", "opposite", "divided", "sum_of", "plus", "minus", "times", "over", "compared", "total", "power", "_law_dice", "_law_roll", "_law_pick"] : List PySem.Str) ++ (["_law_fr", "_law_plus", "_law_times", "_law_minus", "_law_integer", "_law_drawn", "_law_right"] : List PySem.Str)
theorem head (w : World) : HandSHeadRun.RunEq R qv hk ob 2000 names w := by
  intro os
  kernel_rfl
end K21
set_option Elab.async false
set_option linter.all false
set_option maxRecDepth 100000
namespace K21
open PySem Ev
abbrev fds : List FD := P.map DF.fd
theorem cd_loop {fs : Fs} {W0 : Nat} {m : M} : ∀ (W : Nat) (a b : Nat), b < W →
    whileL (tru (ev fs W0 (.cmp .gt (.var 1) (.lit (.int 0)))).v) (ex fs W0 (.seq (.par [0, 1] (.cons (.var 1) (.cons (.bin .mod (.var 0) (.var 1)) .nil))) .nil)) W [some (.int a), some (.int b)] m = .ok (.nx [some (.int (Nat.gcd a b)), some (.int 0)]) m := by
  intro W
  induction W with
  | zero => intro a b h; omega
  | succ W ih =>
    intro a b h
    by_cases hb : b = 0
    · subst hb
      simp [n_bind, n_bindS, n_go, n_some, n_none, n_nox, n_var, n_gl, n_lit, n_bin, n_neg, n_not, n_cmp, n_chn, n_chnT, n_chnF, n_and, n_or, n_ite, n_call, n_bi, n_biq, n_ix, n_sl, n_srev, n_tup, n_lst, n_lstQ, n_comp, n_compQ, n_nil, n_nilO, n_cons, n_star, n_seqI, n_rg1, n_rg2, n_zip, n_enum, n_varQ, n_callQ, n_ixQ, n_slQ, n_srevQ, n_glQ, n_tupQ, n_binQ, n_biQ, n_biqQ, n_iteQ, n_litO, n_varO, n_binO, v_add, v_sub, v_mul, v_fdiv, v_mod, v_pow, v_adds, v_addt, v_lt, v_le, v_gt, v_ge, v_eq, v_ne, v_eqt, v_net, v_eqs, v_nes, v_eql, v_trb, v_abs, v_min, v_max, v_int, v_intb, v_lent, v_isi, v_ixt, v_tup, v_lst, v_lstq, x_nil, x_seq, x_nx, x_rt, x_bk, x_ct, x_set, x_setK, x_asg, x_asgK, x_par, x_parK, x_sub, x_subK, x_aug, x_augK, x_drop, x_ite, x_whl, x_for, x_ret, x_retN, x_brk, x_cont, x_pass, x_tru, x_wh, x_lnx, x_lct, x_lbk, x_lrt, x_turn, x_putn, x_putt, x_puts0, x_puts, x_ps0, x_ps, x_forv, x_fort, x_forl0, x_forl, x_cF, x_cv, x_ct', x_cl0, x_cl, x_t0, x_t1, x_w0, x_w, x_el, v_allv, v_allt, v_srct, v_sall, v_stup, v_nilB, v_rng1, Option.join_some, List.getElem?_cons_zero, List.getElem?_cons_succ, List.length_cons, List.length_nil, List.set_cons_zero, List.set_cons_succ, if_true, if_false, ite_true, ite_false, List.nil_append, List.append_nil, List.cons_append, Option.bind_some, Option.map_some, Option.elim_some, List.map_cons, List.map_nil, List.replicate_succ, List.replicate_zero, Nat.reduceSub, Nat.reduceAdd, Nat.reduceLT, Nat.sub_self, Nat.zero_lt_succ, Nat.lt_add_one, Bool.false_eq_true, Bool.not_true, Bool.not_false]
    · have h1 : (0 : Int) < b := by omega
      have h2 : (b : Int) ≠ 0 := by omega
      have e : (a : Int).fmod b = ((a % b : Nat) : Int) := by
        rw [Int.fmod_eq_emod_of_nonneg _ (by omega)]; rfl
      simp only [n_bind, n_bindS, n_go, n_some, n_none, n_nox, n_var, n_gl, n_lit, n_bin, n_neg, n_not, n_cmp, n_chn, n_chnT, n_chnF, n_and, n_or, n_ite, n_call, n_bi, n_biq, n_ix, n_sl, n_srev, n_tup, n_lst, n_lstQ, n_comp, n_compQ, n_nil, n_nilO, n_cons, n_star, n_seqI, n_rg1, n_rg2, n_zip, n_enum, n_varQ, n_callQ, n_ixQ, n_slQ, n_srevQ, n_glQ, n_tupQ, n_binQ, n_biQ, n_biqQ, n_iteQ, n_litO, n_varO, n_binO, v_add, v_sub, v_mul, v_fdiv, v_mod, v_pow, v_adds, v_addt, v_lt, v_le, v_gt, v_ge, v_eq, v_ne, v_eqt, v_net, v_eqs, v_nes, v_eql, v_trb, v_abs, v_min, v_max, v_int, v_intb, v_lent, v_isi, v_ixt, v_tup, v_lst, v_lstq, x_nil, x_seq, x_nx, x_rt, x_bk, x_ct, x_set, x_setK, x_asg, x_asgK, x_par, x_parK, x_sub, x_subK, x_aug, x_augK, x_drop, x_ite, x_whl, x_for, x_ret, x_retN, x_brk, x_cont, x_pass, x_tru, x_wh, x_lnx, x_lct, x_lbk, x_lrt, x_turn, x_putn, x_putt, x_puts0, x_puts, x_ps0, x_ps, x_forv, x_fort, x_forl0, x_forl, x_cF, x_cv, x_ct', x_cl0, x_cl, x_t0, x_t1, x_w0, x_w, x_el, v_allv, v_allt, v_srct, v_sall, v_stup, v_nilB, v_rng1, Option.join_some, List.getElem?_cons_zero, List.getElem?_cons_succ, List.length_cons, List.length_nil, List.set_cons_zero, List.set_cons_succ, if_true, if_false, ite_true, ite_false, List.nil_append, List.append_nil, List.cons_append, Option.bind_some, Option.map_some, Option.elim_some, List.map_cons, List.map_nil, List.replicate_succ, List.replicate_zero, Nat.reduceSub, Nat.reduceAdd, Nat.reduceLT, Nat.sub_self, Nat.zero_lt_succ, Nat.lt_add_one, Bool.false_eq_true, Bool.not_true, Bool.not_false, decide_true, h1, h2, Nat.zero_lt_succ, Nat.lt_add_one, e]
      rw [ih b (a % b) (by have := Nat.mod_lt a (Nat.pos_of_ne_zero hb); omega)]
      rw [Nat.gcd_comm b, ← Nat.gcd_rec, Nat.gcd_comm]
theorem abs_eq (a : Int) : (if a < 0 then -a else a) = (a.natAbs : Int) := by split <;> omega
section
variable {W n : Nat} {m : M}
theorem cd_ok {a b : Int} (h : b.natAbs < W) : runF fds W (n + 1) 1 [.int a, .int b] m = .ok (.int (Int.gcd a b)) m := by
  rw [runF_at (f := ⟨2, 2, b1⟩) rfl]
  refine c_ret rfl ?_
  simp only [b1, n_bind, n_bindS, n_go, n_some, n_none, n_nox, n_var, n_gl, n_lit, n_bin, n_neg, n_not, n_cmp, n_chn, n_chnT, n_chnF, n_and, n_or, n_ite, n_call, n_bi, n_biq, n_ix, n_sl, n_srev, n_tup, n_lst, n_lstQ, n_comp, n_compQ, n_nil, n_nilO, n_cons, n_star, n_seqI, n_rg1, n_rg2, n_zip, n_enum, n_varQ, n_callQ, n_ixQ, n_slQ, n_srevQ, n_glQ, n_tupQ, n_binQ, n_biQ, n_biqQ, n_iteQ, n_litO, n_varO, n_binO, v_add, v_sub, v_mul, v_fdiv, v_mod, v_pow, v_adds, v_addt, v_lt, v_le, v_gt, v_ge, v_eq, v_ne, v_eqt, v_net, v_eqs, v_nes, v_eql, v_trb, v_abs, v_min, v_max, v_int, v_intb, v_lent, v_isi, v_ixt, v_tup, v_lst, v_lstq, x_nil, x_seq, x_nx, x_rt, x_bk, x_ct, x_set, x_setK, x_asg, x_asgK, x_par, x_parK, x_sub, x_subK, x_aug, x_augK, x_drop, x_ite, x_whl, x_for, x_ret, x_retN, x_brk, x_cont, x_pass, x_tru, x_wh, x_lnx, x_lct, x_lbk, x_lrt, x_turn, x_putn, x_putt, x_puts0, x_puts, x_ps0, x_ps, x_forv, x_fort, x_forl0, x_forl, x_cF, x_cv, x_ct', x_cl0, x_cl, x_t0, x_t1, x_w0, x_w, x_el, v_allv, v_allt, v_srct, v_sall, v_stup, v_nilB, v_rng1, Option.join_some, List.getElem?_cons_zero, List.getElem?_cons_succ, List.length_cons, List.length_nil, List.set_cons_zero, List.set_cons_succ, if_true, if_false, ite_true, ite_false, List.nil_append, List.append_nil, List.cons_append, Option.bind_some, Option.map_some, Option.elim_some, List.map_cons, List.map_nil, List.replicate_succ, List.replicate_zero, Nat.reduceSub, Nat.reduceAdd, Nat.reduceLT, Nat.sub_self, Nat.zero_lt_succ, Nat.lt_add_one, Bool.false_eq_true, Bool.not_true, Bool.not_false, List.map_cons, List.map_nil, Nat.sub_self, List.replicate_zero, abs_eq, Nat.zero_lt_succ, Nat.lt_add_one]
  rw [cd_loop W _ _ h]
  simp only [n_bind, n_bindS, n_go, n_some, n_none, n_nox, n_var, n_gl, n_lit, n_bin, n_neg, n_not, n_cmp, n_chn, n_chnT, n_chnF, n_and, n_or, n_ite, n_call, n_bi, n_biq, n_ix, n_sl, n_srev, n_tup, n_lst, n_lstQ, n_comp, n_compQ, n_nil, n_nilO, n_cons, n_star, n_seqI, n_rg1, n_rg2, n_zip, n_enum, n_varQ, n_callQ, n_ixQ, n_slQ, n_srevQ, n_glQ, n_tupQ, n_binQ, n_biQ, n_biqQ, n_iteQ, n_litO, n_varO, n_binO, v_add, v_sub, v_mul, v_fdiv, v_mod, v_pow, v_adds, v_addt, v_lt, v_le, v_gt, v_ge, v_eq, v_ne, v_eqt, v_net, v_eqs, v_nes, v_eql, v_trb, v_abs, v_min, v_max, v_int, v_intb, v_lent, v_isi, v_ixt, v_tup, v_lst, v_lstq, x_nil, x_seq, x_nx, x_rt, x_bk, x_ct, x_set, x_setK, x_asg, x_asgK, x_par, x_parK, x_sub, x_subK, x_aug, x_augK, x_drop, x_ite, x_whl, x_for, x_ret, x_retN, x_brk, x_cont, x_pass, x_tru, x_wh, x_lnx, x_lct, x_lbk, x_lrt, x_turn, x_putn, x_putt, x_puts0, x_puts, x_ps0, x_ps, x_forv, x_fort, x_forl0, x_forl, x_cF, x_cv, x_ct', x_cl0, x_cl, x_t0, x_t1, x_w0, x_w, x_el, v_allv, v_allt, v_srct, v_sall, v_stup, v_nilB, v_rng1, Option.join_some, List.getElem?_cons_zero, List.getElem?_cons_succ, List.length_cons, List.length_nil, List.set_cons_zero, List.set_cons_succ, if_true, if_false, ite_true, ite_false, List.nil_append, List.append_nil, List.cons_append, Option.bind_some, Option.map_some, Option.elim_some, List.map_cons, List.map_nil, List.replicate_succ, List.replicate_zero, Nat.reduceSub, Nat.reduceAdd, Nat.reduceLT, Nat.sub_self, Nat.zero_lt_succ, Nat.lt_add_one, Bool.false_eq_true, Bool.not_true, Bool.not_false]
  rfl
theorem isint_ok {a : Int} : runF fds W (n + 1) 0 [.int a] m = .ok (.bl true) m := by
  rw [runF_at (f := ⟨1, 1, b0⟩) rfl]
  refine c_ret rfl ?_
  have e1 : (tyN m (.int a)).bind (fun t0 => L2.kitB t0 "int") = some true := by show L2.kitB "int" "int" = _; decide +kernel
  have e2 : (tyN m (.int a)).bind (fun t0 => L2.kitB t0 "bool") = some false := by show L2.kitB "int" "bool" = _; decide +kernel
  simp only [b0, n_bind, n_bindS, n_go, n_some, n_none, n_nox, n_var, n_gl, n_lit, n_bin, n_neg, n_not, n_cmp, n_chn, n_chnT, n_chnF, n_and, n_or, n_ite, n_call, n_bi, n_biq, n_ix, n_sl, n_srev, n_tup, n_lst, n_lstQ, n_comp, n_compQ, n_nil, n_nilO, n_cons, n_star, n_seqI, n_rg1, n_rg2, n_zip, n_enum, n_varQ, n_callQ, n_ixQ, n_slQ, n_srevQ, n_glQ, n_tupQ, n_binQ, n_biQ, n_biqQ, n_iteQ, n_litO, n_varO, n_binO, v_add, v_sub, v_mul, v_fdiv, v_mod, v_pow, v_adds, v_addt, v_lt, v_le, v_gt, v_ge, v_eq, v_ne, v_eqt, v_net, v_eqs, v_nes, v_eql, v_trb, v_abs, v_min, v_max, v_int, v_intb, v_lent, v_isi, v_ixt, v_tup, v_lst, v_lstq, x_nil, x_seq, x_nx, x_rt, x_bk, x_ct, x_set, x_setK, x_asg, x_asgK, x_par, x_parK, x_sub, x_subK, x_aug, x_augK, x_drop, x_ite, x_whl, x_for, x_ret, x_retN, x_brk, x_cont, x_pass, x_tru, x_wh, x_lnx, x_lct, x_lbk, x_lrt, x_turn, x_putn, x_putt, x_puts0, x_puts, x_ps0, x_ps, x_forv, x_fort, x_forl0, x_forl, x_cF, x_cv, x_ct', x_cl0, x_cl, x_t0, x_t1, x_w0, x_w, x_el, v_allv, v_allt, v_srct, v_sall, v_stup, v_nilB, v_rng1, Option.join_some, List.getElem?_cons_zero, List.getElem?_cons_succ, List.length_cons, List.length_nil, List.set_cons_zero, List.set_cons_succ, if_true, if_false, ite_true, ite_false, List.nil_append, List.append_nil, List.cons_append, Option.bind_some, Option.map_some, Option.elim_some, List.map_cons, List.map_nil, List.replicate_succ, List.replicate_zero, Nat.reduceSub, Nat.reduceAdd, Nat.reduceLT, Nat.sub_self, Nat.zero_lt_succ, Nat.lt_add_one, Bool.false_eq_true, Bool.not_true, Bool.not_false, List.map_cons, List.map_nil, Nat.sub_self, List.replicate_zero, e1, e2, Bool.not_false]
theorem fits_ok {k : Nat} (h : k ≤ 1000) : fits k = true := by
  unfold fits
  exact Nat.ble_eq_true_of_le (Nat.le_trans h (by rw [sizeLine_eq]; decide))
theorem red_ok (hW : 2 ^ 8000 ≤ W) {t b : Int} (hb : b ≠ 0) (hs : Lt 8000 b) : runF fds W (n + 2) 3 [.int t, .int b] m = .ok (fr (Rat.divInt t b)) m := by
  rw [runF_at (f := ⟨2, 3, b3⟩) rfl]
  refine c_ret rfl ?_
  have hbW : b.natAbs < W := Nat.lt_of_lt_of_le hs hW
  have g0 : Int.gcd t b ≠ 0 := fun z => by have := Int.gcd_eq_zero_iff.mp z; omega
  have gl : Lt 8000 (Int.gcd t b : Int) := by
    refine hs.of_le ?_
    have := Nat.le_of_dvd (by omega) (Nat.gcd_dvd_right t.natAbs b.natAbs)
    simpa [Int.gcd] using this
  have gz : decide ((Int.gcd t b : Int) = 0) = false := decide_eq_false (by omega)
  have kk : ∀ x : Int, (decide ((Int.gcd t b : Int) = 0) || Builtin.divisionGoesByPylong x (Int.gcd t b)) = false := fun x => by rw [gl.noPy (by decide), gz]; rfl
  have fd : ∀ x : Int, x.fdiv (Int.gcd t b : Int) = x / (Int.gcd t b : Int) := fun x => Int.fdiv_eq_ediv_of_nonneg _ (by omega)
  have hdn := divInt_num (t := t) hb
  have hdd := divInt_den (t := t) hb
  by_cases hn : b < 0
  · have k1 : Int.gcd (0 - t) (0 - b) = Int.gcd t b := by unfold Int.gcd; congr 1 <;> omega
    rw [if_pos hn] at hdn hdd
    simp only [b3, n_bind, n_bindS, n_go, n_some, n_none, n_nox, n_var, n_gl, n_lit, n_bin, n_neg, n_not, n_cmp, n_chn, n_chnT, n_chnF, n_and, n_or, n_ite, n_call, n_bi, n_biq, n_ix, n_sl, n_srev, n_tup, n_lst, n_lstQ, n_comp, n_compQ, n_nil, n_nilO, n_cons, n_star, n_seqI, n_rg1, n_rg2, n_zip, n_enum, n_varQ, n_callQ, n_ixQ, n_slQ, n_srevQ, n_glQ, n_tupQ, n_binQ, n_biQ, n_biqQ, n_iteQ, n_litO, n_varO, n_binO, v_add, v_sub, v_mul, v_fdiv, v_mod, v_pow, v_adds, v_addt, v_lt, v_le, v_gt, v_ge, v_eq, v_ne, v_eqt, v_net, v_eqs, v_nes, v_eql, v_trb, v_abs, v_min, v_max, v_int, v_intb, v_lent, v_isi, v_ixt, v_tup, v_lst, v_lstq, x_nil, x_seq, x_nx, x_rt, x_bk, x_ct, x_set, x_setK, x_asg, x_asgK, x_par, x_parK, x_sub, x_subK, x_aug, x_augK, x_drop, x_ite, x_whl, x_for, x_ret, x_retN, x_brk, x_cont, x_pass, x_tru, x_wh, x_lnx, x_lct, x_lbk, x_lrt, x_turn, x_putn, x_putt, x_puts0, x_puts, x_ps0, x_ps, x_forv, x_fort, x_forl0, x_forl, x_cF, x_cv, x_ct', x_cl0, x_cl, x_t0, x_t1, x_w0, x_w, x_el, v_allv, v_allt, v_srct, v_sall, v_stup, v_nilB, v_rng1, Option.join_some, List.getElem?_cons_zero, List.getElem?_cons_succ, List.length_cons, List.length_nil, List.set_cons_zero, List.set_cons_succ, if_true, if_false, ite_true, ite_false, List.nil_append, List.append_nil, List.cons_append, Option.bind_some, Option.map_some, Option.elim_some, List.map_cons, List.map_nil, List.replicate_succ, List.replicate_zero, Nat.reduceSub, Nat.reduceAdd, Nat.reduceLT, Nat.sub_self, Nat.zero_lt_succ, Nat.lt_add_one, Bool.false_eq_true, Bool.not_true, Bool.not_false, List.map_cons, List.map_nil, Nat.reduceSub, List.replicate_succ, List.replicate_zero, decide_eq_true hn, Nat.zero_lt_succ, Nat.lt_add_one, Nat.reduceAdd, Nat.reduceLT,
      cd_ok (show (0 - b).natAbs < W by omega), kk, fits_ok (show 2 ≤ 1000 by decide), fd, k1, Bool.false_eq_true]
    unfold fr
    rw [hdn, hdd, show (0 : Int) - t = -t by omega, show (0 : Int) - b = -b by omega]
  · rw [if_neg hn] at hdn hdd
    simp only [b3, n_bind, n_bindS, n_go, n_some, n_none, n_nox, n_var, n_gl, n_lit, n_bin, n_neg, n_not, n_cmp, n_chn, n_chnT, n_chnF, n_and, n_or, n_ite, n_call, n_bi, n_biq, n_ix, n_sl, n_srev, n_tup, n_lst, n_lstQ, n_comp, n_compQ, n_nil, n_nilO, n_cons, n_star, n_seqI, n_rg1, n_rg2, n_zip, n_enum, n_varQ, n_callQ, n_ixQ, n_slQ, n_srevQ, n_glQ, n_tupQ, n_binQ, n_biQ, n_biqQ, n_iteQ, n_litO, n_varO, n_binO, v_add, v_sub, v_mul, v_fdiv, v_mod, v_pow, v_adds, v_addt, v_lt, v_le, v_gt, v_ge, v_eq, v_ne, v_eqt, v_net, v_eqs, v_nes, v_eql, v_trb, v_abs, v_min, v_max, v_int, v_intb, v_lent, v_isi, v_ixt, v_tup, v_lst, v_lstq, x_nil, x_seq, x_nx, x_rt, x_bk, x_ct, x_set, x_setK, x_asg, x_asgK, x_par, x_parK, x_sub, x_subK, x_aug, x_augK, x_drop, x_ite, x_whl, x_for, x_ret, x_retN, x_brk, x_cont, x_pass, x_tru, x_wh, x_lnx, x_lct, x_lbk, x_lrt, x_turn, x_putn, x_putt, x_puts0, x_puts, x_ps0, x_ps, x_forv, x_fort, x_forl0, x_forl, x_cF, x_cv, x_ct', x_cl0, x_cl, x_t0, x_t1, x_w0, x_w, x_el, v_allv, v_allt, v_srct, v_sall, v_stup, v_nilB, v_rng1, Option.join_some, List.getElem?_cons_zero, List.getElem?_cons_succ, List.length_cons, List.length_nil, List.set_cons_zero, List.set_cons_succ, if_true, if_false, ite_true, ite_false, List.nil_append, List.append_nil, List.cons_append, Option.bind_some, Option.map_some, Option.elim_some, List.map_cons, List.map_nil, List.replicate_succ, List.replicate_zero, Nat.reduceSub, Nat.reduceAdd, Nat.reduceLT, Nat.sub_self, Nat.zero_lt_succ, Nat.lt_add_one, Bool.false_eq_true, Bool.not_true, Bool.not_false, List.map_cons, List.map_nil, Nat.reduceSub, List.replicate_succ, List.replicate_zero, decide_eq_false hn, Nat.zero_lt_succ, Nat.lt_add_one, Nat.reduceAdd, Nat.reduceLT,
      cd_ok hbW, kk, fits_ok (show 2 ≤ 1000 by decide), fd, Bool.false_eq_true]
    unfold fr
    rw [hdn, hdd]
theorem at0 {x y : D} : L2.atI [x, y] 0 = some x := rfl
theorem at1 {x y : D} : L2.atI [x, y] 1 = some y := rfl
theorem isTup {ds : List D} : (tyN m (.tup ds)).bind (fun t0 => L2.kitB t0 "tuple") = some true := by show L2.kitB "tuple" "tuple" = _; decide +kernel
theorem f2 : fits 2 = true := fits_ok (by decide)
theorem isnum_ok (hW : 2 ^ 8000 ≤ W) {q : Rat} (h : Sz 8000 q) : runF fds W (n + 2) 2 [fr q] m = .ok (.bl true) m := by
  rw [runF_at (f := ⟨1, 2, b2⟩) rfl]
  refine c_ret rfl ?_
  have hd : ((q.den : Int)).natAbs < W := Nat.lt_of_lt_of_le h.2 hW
  have hp : (1 : Int) ≤ q.den := by have := q.den_nz; omega
  have hg : Int.gcd q.num q.den = 1 := q.reduced
  have e2 : ((2 : Nat) : Int) = 2 := rfl
  simp only [b2, fr, n_bind, n_bindS, n_go, n_some, n_none, n_nox, n_var, n_gl, n_lit, n_bin, n_neg, n_not, n_cmp, n_chn, n_chnT, n_chnF, n_and, n_or, n_ite, n_call, n_bi, n_biq, n_ix, n_sl, n_srev, n_tup, n_lst, n_lstQ, n_comp, n_compQ, n_nil, n_nilO, n_cons, n_star, n_seqI, n_rg1, n_rg2, n_zip, n_enum, n_varQ, n_callQ, n_ixQ, n_slQ, n_srevQ, n_glQ, n_tupQ, n_binQ, n_biQ, n_biqQ, n_iteQ, n_litO, n_varO, n_binO, v_add, v_sub, v_mul, v_fdiv, v_mod, v_pow, v_adds, v_addt, v_lt, v_le, v_gt, v_ge, v_eq, v_ne, v_eqt, v_net, v_eqs, v_nes, v_eql, v_trb, v_abs, v_min, v_max, v_int, v_intb, v_lent, v_isi, v_ixt, v_tup, v_lst, v_lstq, x_nil, x_seq, x_nx, x_rt, x_bk, x_ct, x_set, x_setK, x_asg, x_asgK, x_par, x_parK, x_sub, x_subK, x_aug, x_augK, x_drop, x_ite, x_whl, x_for, x_ret, x_retN, x_brk, x_cont, x_pass, x_tru, x_wh, x_lnx, x_lct, x_lbk, x_lrt, x_turn, x_putn, x_putt, x_puts0, x_puts, x_ps0, x_ps, x_forv, x_fort, x_forl0, x_forl, x_cF, x_cv, x_ct', x_cl0, x_cl, x_t0, x_t1, x_w0, x_w, x_el, v_allv, v_allt, v_srct, v_sall, v_stup, v_nilB, v_rng1, Option.join_some, List.getElem?_cons_zero, List.getElem?_cons_succ, List.length_cons, List.length_nil, List.set_cons_zero, List.set_cons_succ, if_true, if_false, ite_true, ite_false, List.nil_append, List.append_nil, List.cons_append, Option.bind_some, Option.map_some, Option.elim_some, List.map_cons, List.map_nil, List.replicate_succ, List.replicate_zero, Nat.reduceSub, Nat.reduceAdd, Nat.reduceLT, Nat.sub_self, Nat.zero_lt_succ, Nat.lt_add_one, Bool.false_eq_true, Bool.not_true, Bool.not_false, isTup, isint_ok, e2, decide_true, f2, at0, at1, hp, cd_ok hd, hg, asBls, List.mapM_cons, List.mapM_nil, Option.pure_def, Option.bind_eq_bind, List.all_cons, List.all_nil, id, Bool.and_self]
  rfl
theorem req_ok (hW : 2 ^ 8000 ≤ W) {q : Rat} (h : Sz 8000 q) : runF fds W (n + 3) 5 [fr q] m = .ok .non m := by
  rw [runF_at (f := ⟨1, 1, b5⟩) rfl, c_call rfl]
  simp only [b5, n_bind, n_bindS, n_go, n_some, n_none, n_nox, n_var, n_gl, n_lit, n_bin, n_neg, n_not, n_cmp, n_chn, n_chnT, n_chnF, n_and, n_or, n_ite, n_call, n_bi, n_biq, n_ix, n_sl, n_srev, n_tup, n_lst, n_lstQ, n_comp, n_compQ, n_nil, n_nilO, n_cons, n_star, n_seqI, n_rg1, n_rg2, n_zip, n_enum, n_varQ, n_callQ, n_ixQ, n_slQ, n_srevQ, n_glQ, n_tupQ, n_binQ, n_biQ, n_biqQ, n_iteQ, n_litO, n_varO, n_binO, v_add, v_sub, v_mul, v_fdiv, v_mod, v_pow, v_adds, v_addt, v_lt, v_le, v_gt, v_ge, v_eq, v_ne, v_eqt, v_net, v_eqs, v_nes, v_eql, v_trb, v_abs, v_min, v_max, v_int, v_intb, v_lent, v_isi, v_ixt, v_tup, v_lst, v_lstq, x_nil, x_seq, x_nx, x_rt, x_bk, x_ct, x_set, x_setK, x_asg, x_asgK, x_par, x_parK, x_sub, x_subK, x_aug, x_augK, x_drop, x_ite, x_whl, x_for, x_ret, x_retN, x_brk, x_cont, x_pass, x_tru, x_wh, x_lnx, x_lct, x_lbk, x_lrt, x_turn, x_putn, x_putt, x_puts0, x_puts, x_ps0, x_ps, x_forv, x_fort, x_forl0, x_forl, x_cF, x_cv, x_ct', x_cl0, x_cl, x_t0, x_t1, x_w0, x_w, x_el, v_allv, v_allt, v_srct, v_sall, v_stup, v_nilB, v_rng1, Option.join_some, List.getElem?_cons_zero, List.getElem?_cons_succ, List.length_cons, List.length_nil, List.set_cons_zero, List.set_cons_succ, if_true, if_false, ite_true, ite_false, List.nil_append, List.append_nil, List.cons_append, Option.bind_some, Option.map_some, Option.elim_some, List.map_cons, List.map_nil, List.replicate_succ, List.replicate_zero, Nat.reduceSub, Nat.reduceAdd, Nat.reduceLT, Nat.sub_self, Nat.zero_lt_succ, Nat.lt_add_one, Bool.false_eq_true, Bool.not_true, Bool.not_false, isnum_ok hW h]
  rw [gc_self]
theorem add_ok (hW : 2 ^ 8000 ≤ W) {p q : Rat} (hp : Sz 3000 p) (hq : Sz 3000 q) : runF fds W (n + 3) 7 [fr p, fr q] m = .ok (fr (p + q)) m := by
  rw [runF_at (f := ⟨2, 2, b7⟩) rfl]
  refine c_ret rfl ?_
  have m1 := hp.1.mulOk hq.2 (by decide)
  have m2 := hq.1.mulOk hp.2 (by decide)
  have m3 := hp.2.mulOk hq.2 (by decide)
  have hz : (p.den : Int) * q.den ≠ 0 := Int.mul_ne_zero (den_ne p) (den_ne q)
  have hr : runF fds W (n + 2) 3 [.int (p.num * q.den + q.num * p.den), .int (p.den * q.den)] m = .ok (fr (p + q)) m := by
    rw [red_ok hW hz ((hp.2.mul hq.2).mono (by decide)), add_divInt]
  by_cases h1 : (p.den : Int) = q.den
  · by_cases h2 : (q.den : Int) = 1
    · have hf : fr (p + q) = .tup [.int (p.num + q.num), .int 1] := by
        have := hr
        have e : p + q = Rat.divInt (p.num + q.num) 1 := by
          rw [add_divInt, h1, h2]; simp
        unfold fr
        rw [e]
        have n1 := divInt_num (t := p.num + q.num) (b := 1) (by decide)
        have n2 := divInt_den (t := p.num + q.num) (b := 1) (by decide)
        rw [n1, n2]
        simp
      rw [hf]
      simp only [b7, fr, n_bind, n_bindS, n_go, n_some, n_none, n_nox, n_var, n_gl, n_lit, n_bin, n_neg, n_not, n_cmp, n_chn, n_chnT, n_chnF, n_and, n_or, n_ite, n_call, n_bi, n_biq, n_ix, n_sl, n_srev, n_tup, n_lst, n_lstQ, n_comp, n_compQ, n_nil, n_nilO, n_cons, n_star, n_seqI, n_rg1, n_rg2, n_zip, n_enum, n_varQ, n_callQ, n_ixQ, n_slQ, n_srevQ, n_glQ, n_tupQ, n_binQ, n_biQ, n_biqQ, n_iteQ, n_litO, n_varO, n_binO, v_add, v_sub, v_mul, v_fdiv, v_mod, v_pow, v_adds, v_addt, v_lt, v_le, v_gt, v_ge, v_eq, v_ne, v_eqt, v_net, v_eqs, v_nes, v_eql, v_trb, v_abs, v_min, v_max, v_int, v_intb, v_lent, v_isi, v_ixt, v_tup, v_lst, v_lstq, x_nil, x_seq, x_nx, x_rt, x_bk, x_ct, x_set, x_setK, x_asg, x_asgK, x_par, x_parK, x_sub, x_subK, x_aug, x_augK, x_drop, x_ite, x_whl, x_for, x_ret, x_retN, x_brk, x_cont, x_pass, x_tru, x_wh, x_lnx, x_lct, x_lbk, x_lrt, x_turn, x_putn, x_putt, x_puts0, x_puts, x_ps0, x_ps, x_forv, x_fort, x_forl0, x_forl, x_cF, x_cv, x_ct', x_cl0, x_cl, x_t0, x_t1, x_w0, x_w, x_el, v_allv, v_allt, v_srct, v_sall, v_stup, v_nilB, v_rng1, Option.join_some, List.getElem?_cons_zero, List.getElem?_cons_succ, List.length_cons, List.length_nil, List.set_cons_zero, List.set_cons_succ, if_true, if_false, ite_true, ite_false, List.nil_append, List.append_nil, List.cons_append, Option.bind_some, Option.map_some, Option.elim_some, List.map_cons, List.map_nil, List.replicate_succ, List.replicate_zero, Nat.reduceSub, Nat.reduceAdd, Nat.reduceLT, Nat.sub_self, Nat.zero_lt_succ, Nat.lt_add_one, Bool.false_eq_true, Bool.not_true, Bool.not_false, at0, at1, h1, h2, decide_true, f2]
    · simp only [b7, fr, n_bind, n_bindS, n_go, n_some, n_none, n_nox, n_var, n_gl, n_lit, n_bin, n_neg, n_not, n_cmp, n_chn, n_chnT, n_chnF, n_and, n_or, n_ite, n_call, n_bi, n_biq, n_ix, n_sl, n_srev, n_tup, n_lst, n_lstQ, n_comp, n_compQ, n_nil, n_nilO, n_cons, n_star, n_seqI, n_rg1, n_rg2, n_zip, n_enum, n_varQ, n_callQ, n_ixQ, n_slQ, n_srevQ, n_glQ, n_tupQ, n_binQ, n_biQ, n_biqQ, n_iteQ, n_litO, n_varO, n_binO, v_add, v_sub, v_mul, v_fdiv, v_mod, v_pow, v_adds, v_addt, v_lt, v_le, v_gt, v_ge, v_eq, v_ne, v_eqt, v_net, v_eqs, v_nes, v_eql, v_trb, v_abs, v_min, v_max, v_int, v_intb, v_lent, v_isi, v_ixt, v_tup, v_lst, v_lstq, x_nil, x_seq, x_nx, x_rt, x_bk, x_ct, x_set, x_setK, x_asg, x_asgK, x_par, x_parK, x_sub, x_subK, x_aug, x_augK, x_drop, x_ite, x_whl, x_for, x_ret, x_retN, x_brk, x_cont, x_pass, x_tru, x_wh, x_lnx, x_lct, x_lbk, x_lrt, x_turn, x_putn, x_putt, x_puts0, x_puts, x_ps0, x_ps, x_forv, x_fort, x_forl0, x_forl, x_cF, x_cv, x_ct', x_cl0, x_cl, x_t0, x_t1, x_w0, x_w, x_el, v_allv, v_allt, v_srct, v_sall, v_stup, v_nilB, v_rng1, Option.join_some, List.getElem?_cons_zero, List.getElem?_cons_succ, List.length_cons, List.length_nil, List.set_cons_zero, List.set_cons_succ, if_true, if_false, ite_true, ite_false, List.nil_append, List.append_nil, List.cons_append, Option.bind_some, Option.map_some, Option.elim_some, List.map_cons, List.map_nil, List.replicate_succ, List.replicate_zero, Nat.reduceSub, Nat.reduceAdd, Nat.reduceLT, Nat.sub_self, Nat.zero_lt_succ, Nat.lt_add_one, Bool.false_eq_true, Bool.not_true, Bool.not_false, at0, at1, h1, decide_true, decide_eq_false h2]
      rw [h1] at m2 m3 hr
      simp only [m1, m2, m3, if_true, n_bind, n_bindS, n_go, n_some, n_none, n_nox, n_var, n_gl, n_lit, n_bin, n_neg, n_not, n_cmp, n_chn, n_chnT, n_chnF, n_and, n_or, n_ite, n_call, n_bi, n_biq, n_ix, n_sl, n_srev, n_tup, n_lst, n_lstQ, n_comp, n_compQ, n_nil, n_nilO, n_cons, n_star, n_seqI, n_rg1, n_rg2, n_zip, n_enum, n_varQ, n_callQ, n_ixQ, n_slQ, n_srevQ, n_glQ, n_tupQ, n_binQ, n_biQ, n_biqQ, n_iteQ, n_litO, n_varO, n_binO, v_add, v_sub, v_mul, v_fdiv, v_mod, v_pow, v_adds, v_addt, v_lt, v_le, v_gt, v_ge, v_eq, v_ne, v_eqt, v_net, v_eqs, v_nes, v_eql, v_trb, v_abs, v_min, v_max, v_int, v_intb, v_lent, v_isi, v_ixt, v_tup, v_lst, v_lstq, x_nil, x_seq, x_nx, x_rt, x_bk, x_ct, x_set, x_setK, x_asg, x_asgK, x_par, x_parK, x_sub, x_subK, x_aug, x_augK, x_drop, x_ite, x_whl, x_for, x_ret, x_retN, x_brk, x_cont, x_pass, x_tru, x_wh, x_lnx, x_lct, x_lbk, x_lrt, x_turn, x_putn, x_putt, x_puts0, x_puts, x_ps0, x_ps, x_forv, x_fort, x_forl0, x_forl, x_cF, x_cv, x_ct', x_cl0, x_cl, x_t0, x_t1, x_w0, x_w, x_el, v_allv, v_allt, v_srct, v_sall, v_stup, v_nilB, v_rng1, Option.join_some, List.getElem?_cons_zero, List.getElem?_cons_succ, List.length_cons, List.length_nil, List.set_cons_zero, List.set_cons_succ, if_true, if_false, ite_true, ite_false, List.nil_append, List.append_nil, List.cons_append, Option.bind_some, Option.map_some, Option.elim_some, List.map_cons, List.map_nil, List.replicate_succ, List.replicate_zero, Nat.reduceSub, Nat.reduceAdd, Nat.reduceLT, Nat.sub_self, Nat.zero_lt_succ, Nat.lt_add_one, Bool.false_eq_true, Bool.not_true, Bool.not_false, hr, fr]
  · simp only [b7, fr, n_bind, n_bindS, n_go, n_some, n_none, n_nox, n_var, n_gl, n_lit, n_bin, n_neg, n_not, n_cmp, n_chn, n_chnT, n_chnF, n_and, n_or, n_ite, n_call, n_bi, n_biq, n_ix, n_sl, n_srev, n_tup, n_lst, n_lstQ, n_comp, n_compQ, n_nil, n_nilO, n_cons, n_star, n_seqI, n_rg1, n_rg2, n_zip, n_enum, n_varQ, n_callQ, n_ixQ, n_slQ, n_srevQ, n_glQ, n_tupQ, n_binQ, n_biQ, n_biqQ, n_iteQ, n_litO, n_varO, n_binO, v_add, v_sub, v_mul, v_fdiv, v_mod, v_pow, v_adds, v_addt, v_lt, v_le, v_gt, v_ge, v_eq, v_ne, v_eqt, v_net, v_eqs, v_nes, v_eql, v_trb, v_abs, v_min, v_max, v_int, v_intb, v_lent, v_isi, v_ixt, v_tup, v_lst, v_lstq, x_nil, x_seq, x_nx, x_rt, x_bk, x_ct, x_set, x_setK, x_asg, x_asgK, x_par, x_parK, x_sub, x_subK, x_aug, x_augK, x_drop, x_ite, x_whl, x_for, x_ret, x_retN, x_brk, x_cont, x_pass, x_tru, x_wh, x_lnx, x_lct, x_lbk, x_lrt, x_turn, x_putn, x_putt, x_puts0, x_puts, x_ps0, x_ps, x_forv, x_fort, x_forl0, x_forl, x_cF, x_cv, x_ct', x_cl0, x_cl, x_t0, x_t1, x_w0, x_w, x_el, v_allv, v_allt, v_srct, v_sall, v_stup, v_nilB, v_rng1, Option.join_some, List.getElem?_cons_zero, List.getElem?_cons_succ, List.length_cons, List.length_nil, List.set_cons_zero, List.set_cons_succ, if_true, if_false, ite_true, ite_false, List.nil_append, List.append_nil, List.cons_append, Option.bind_some, Option.map_some, Option.elim_some, List.map_cons, List.map_nil, List.replicate_succ, List.replicate_zero, Nat.reduceSub, Nat.reduceAdd, Nat.reduceLT, Nat.sub_self, Nat.zero_lt_succ, Nat.lt_add_one, Bool.false_eq_true, Bool.not_true, Bool.not_false, at0, at1, decide_eq_false h1, m1, m2, m3]
    rw [hr]
    simp only [n_bind, n_bindS, n_go, n_some, n_none, n_nox, n_var, n_gl, n_lit, n_bin, n_neg, n_not, n_cmp, n_chn, n_chnT, n_chnF, n_and, n_or, n_ite, n_call, n_bi, n_biq, n_ix, n_sl, n_srev, n_tup, n_lst, n_lstQ, n_comp, n_compQ, n_nil, n_nilO, n_cons, n_star, n_seqI, n_rg1, n_rg2, n_zip, n_enum, n_varQ, n_callQ, n_ixQ, n_slQ, n_srevQ, n_glQ, n_tupQ, n_binQ, n_biQ, n_biqQ, n_iteQ, n_litO, n_varO, n_binO, v_add, v_sub, v_mul, v_fdiv, v_mod, v_pow, v_adds, v_addt, v_lt, v_le, v_gt, v_ge, v_eq, v_ne, v_eqt, v_net, v_eqs, v_nes, v_eql, v_trb, v_abs, v_min, v_max, v_int, v_intb, v_lent, v_isi, v_ixt, v_tup, v_lst, v_lstq, x_nil, x_seq, x_nx, x_rt, x_bk, x_ct, x_set, x_setK, x_asg, x_asgK, x_par, x_parK, x_sub, x_subK, x_aug, x_augK, x_drop, x_ite, x_whl, x_for, x_ret, x_retN, x_brk, x_cont, x_pass, x_tru, x_wh, x_lnx, x_lct, x_lbk, x_lrt, x_turn, x_putn, x_putt, x_puts0, x_puts, x_ps0, x_ps, x_forv, x_fort, x_forl0, x_forl, x_cF, x_cv, x_ct', x_cl0, x_cl, x_t0, x_t1, x_w0, x_w, x_el, v_allv, v_allt, v_srct, v_sall, v_stup, v_nilB, v_rng1, Option.join_some, List.getElem?_cons_zero, List.getElem?_cons_succ, List.length_cons, List.length_nil, List.set_cons_zero, List.set_cons_succ, if_true, if_false, ite_true, ite_false, List.nil_append, List.append_nil, List.cons_append, Option.bind_some, Option.map_some, Option.elim_some, List.map_cons, List.map_nil, List.replicate_succ, List.replicate_zero, Nat.reduceSub, Nat.reduceAdd, Nat.reduceLT, Nat.sub_self, Nat.zero_lt_succ, Nat.lt_add_one, Bool.false_eq_true, Bool.not_true, Bool.not_false, fr]
theorem mul_ok (hW : 2 ^ 8000 ≤ W) {p q : Rat} (hp : Sz 3000 p) (hq : Sz 3000 q) : runF fds W (n + 3) 8 [fr p, fr q] m = .ok (fr (p * q)) m := by
  rw [runF_at (f := ⟨2, 2, b8⟩) rfl]
  refine c_ret rfl ?_
  have m1 := hp.1.mulOk hq.1 (by decide)
  have m3 := hp.2.mulOk hq.2 (by decide)
  have hz : (p.den : Int) * q.den ≠ 0 := Int.mul_ne_zero (den_ne p) (den_ne q)
  have hr : runF fds W (n + 2) 3 [.int (p.num * q.num), .int (p.den * q.den)] m = .ok (fr (p * q)) m := by
    rw [red_ok hW hz ((hp.2.mul hq.2).mono (by decide)), mul_divInt]
  by_cases h1 : (p.den : Int) = q.den
  · by_cases h2 : (q.den : Int) = 1
    · have hf : fr (p * q) = .tup [.int (p.num * q.num), .int 1] := by
        have e : p * q = Rat.divInt (p.num * q.num) 1 := by
          rw [mul_divInt, h1, h2]; simp
        unfold fr
        rw [e]
        have n1 := divInt_num (t := p.num * q.num) (b := 1) (by decide)
        have n2 := divInt_den (t := p.num * q.num) (b := 1) (by decide)
        rw [n1, n2]
        simp
      rw [hf]
      simp only [b8, fr, n_bind, n_bindS, n_go, n_some, n_none, n_nox, n_var, n_gl, n_lit, n_bin, n_neg, n_not, n_cmp, n_chn, n_chnT, n_chnF, n_and, n_or, n_ite, n_call, n_bi, n_biq, n_ix, n_sl, n_srev, n_tup, n_lst, n_lstQ, n_comp, n_compQ, n_nil, n_nilO, n_cons, n_star, n_seqI, n_rg1, n_rg2, n_zip, n_enum, n_varQ, n_callQ, n_ixQ, n_slQ, n_srevQ, n_glQ, n_tupQ, n_binQ, n_biQ, n_biqQ, n_iteQ, n_litO, n_varO, n_binO, v_add, v_sub, v_mul, v_fdiv, v_mod, v_pow, v_adds, v_addt, v_lt, v_le, v_gt, v_ge, v_eq, v_ne, v_eqt, v_net, v_eqs, v_nes, v_eql, v_trb, v_abs, v_min, v_max, v_int, v_intb, v_lent, v_isi, v_ixt, v_tup, v_lst, v_lstq, x_nil, x_seq, x_nx, x_rt, x_bk, x_ct, x_set, x_setK, x_asg, x_asgK, x_par, x_parK, x_sub, x_subK, x_aug, x_augK, x_drop, x_ite, x_whl, x_for, x_ret, x_retN, x_brk, x_cont, x_pass, x_tru, x_wh, x_lnx, x_lct, x_lbk, x_lrt, x_turn, x_putn, x_putt, x_puts0, x_puts, x_ps0, x_ps, x_forv, x_fort, x_forl0, x_forl, x_cF, x_cv, x_ct', x_cl0, x_cl, x_t0, x_t1, x_w0, x_w, x_el, v_allv, v_allt, v_srct, v_sall, v_stup, v_nilB, v_rng1, Option.join_some, List.getElem?_cons_zero, List.getElem?_cons_succ, List.length_cons, List.length_nil, List.set_cons_zero, List.set_cons_succ, if_true, if_false, ite_true, ite_false, List.nil_append, List.append_nil, List.cons_append, Option.bind_some, Option.map_some, Option.elim_some, List.map_cons, List.map_nil, List.replicate_succ, List.replicate_zero, Nat.reduceSub, Nat.reduceAdd, Nat.reduceLT, Nat.sub_self, Nat.zero_lt_succ, Nat.lt_add_one, Bool.false_eq_true, Bool.not_true, Bool.not_false, at0, at1, h1, h2, decide_true, f2, m1]
    · simp only [b8, fr, n_bind, n_bindS, n_go, n_some, n_none, n_nox, n_var, n_gl, n_lit, n_bin, n_neg, n_not, n_cmp, n_chn, n_chnT, n_chnF, n_and, n_or, n_ite, n_call, n_bi, n_biq, n_ix, n_sl, n_srev, n_tup, n_lst, n_lstQ, n_comp, n_compQ, n_nil, n_nilO, n_cons, n_star, n_seqI, n_rg1, n_rg2, n_zip, n_enum, n_varQ, n_callQ, n_ixQ, n_slQ, n_srevQ, n_glQ, n_tupQ, n_binQ, n_biQ, n_biqQ, n_iteQ, n_litO, n_varO, n_binO, v_add, v_sub, v_mul, v_fdiv, v_mod, v_pow, v_adds, v_addt, v_lt, v_le, v_gt, v_ge, v_eq, v_ne, v_eqt, v_net, v_eqs, v_nes, v_eql, v_trb, v_abs, v_min, v_max, v_int, v_intb, v_lent, v_isi, v_ixt, v_tup, v_lst, v_lstq, x_nil, x_seq, x_nx, x_rt, x_bk, x_ct, x_set, x_setK, x_asg, x_asgK, x_par, x_parK, x_sub, x_subK, x_aug, x_augK, x_drop, x_ite, x_whl, x_for, x_ret, x_retN, x_brk, x_cont, x_pass, x_tru, x_wh, x_lnx, x_lct, x_lbk, x_lrt, x_turn, x_putn, x_putt, x_puts0, x_puts, x_ps0, x_ps, x_forv, x_fort, x_forl0, x_forl, x_cF, x_cv, x_ct', x_cl0, x_cl, x_t0, x_t1, x_w0, x_w, x_el, v_allv, v_allt, v_srct, v_sall, v_stup, v_nilB, v_rng1, Option.join_some, List.getElem?_cons_zero, List.getElem?_cons_succ, List.length_cons, List.length_nil, List.set_cons_zero, List.set_cons_succ, if_true, if_false, ite_true, ite_false, List.nil_append, List.append_nil, List.cons_append, Option.bind_some, Option.map_some, Option.elim_some, List.map_cons, List.map_nil, List.replicate_succ, List.replicate_zero, Nat.reduceSub, Nat.reduceAdd, Nat.reduceLT, Nat.sub_self, Nat.zero_lt_succ, Nat.lt_add_one, Bool.false_eq_true, Bool.not_true, Bool.not_false, at0, at1, h1, decide_true, decide_eq_false h2]
      rw [h1] at m3 hr
      simp only [m1, m3, if_true, n_bind, n_bindS, n_go, n_some, n_none, n_nox, n_var, n_gl, n_lit, n_bin, n_neg, n_not, n_cmp, n_chn, n_chnT, n_chnF, n_and, n_or, n_ite, n_call, n_bi, n_biq, n_ix, n_sl, n_srev, n_tup, n_lst, n_lstQ, n_comp, n_compQ, n_nil, n_nilO, n_cons, n_star, n_seqI, n_rg1, n_rg2, n_zip, n_enum, n_varQ, n_callQ, n_ixQ, n_slQ, n_srevQ, n_glQ, n_tupQ, n_binQ, n_biQ, n_biqQ, n_iteQ, n_litO, n_varO, n_binO, v_add, v_sub, v_mul, v_fdiv, v_mod, v_pow, v_adds, v_addt, v_lt, v_le, v_gt, v_ge, v_eq, v_ne, v_eqt, v_net, v_eqs, v_nes, v_eql, v_trb, v_abs, v_min, v_max, v_int, v_intb, v_lent, v_isi, v_ixt, v_tup, v_lst, v_lstq, x_nil, x_seq, x_nx, x_rt, x_bk, x_ct, x_set, x_setK, x_asg, x_asgK, x_par, x_parK, x_sub, x_subK, x_aug, x_augK, x_drop, x_ite, x_whl, x_for, x_ret, x_retN, x_brk, x_cont, x_pass, x_tru, x_wh, x_lnx, x_lct, x_lbk, x_lrt, x_turn, x_putn, x_putt, x_puts0, x_puts, x_ps0, x_ps, x_forv, x_fort, x_forl0, x_forl, x_cF, x_cv, x_ct', x_cl0, x_cl, x_t0, x_t1, x_w0, x_w, x_el, v_allv, v_allt, v_srct, v_sall, v_stup, v_nilB, v_rng1, Option.join_some, List.getElem?_cons_zero, List.getElem?_cons_succ, List.length_cons, List.length_nil, List.set_cons_zero, List.set_cons_succ, if_true, if_false, ite_true, ite_false, List.nil_append, List.append_nil, List.cons_append, Option.bind_some, Option.map_some, Option.elim_some, List.map_cons, List.map_nil, List.replicate_succ, List.replicate_zero, Nat.reduceSub, Nat.reduceAdd, Nat.reduceLT, Nat.sub_self, Nat.zero_lt_succ, Nat.lt_add_one, Bool.false_eq_true, Bool.not_true, Bool.not_false, hr, fr]
  · simp only [b8, fr, n_bind, n_bindS, n_go, n_some, n_none, n_nox, n_var, n_gl, n_lit, n_bin, n_neg, n_not, n_cmp, n_chn, n_chnT, n_chnF, n_and, n_or, n_ite, n_call, n_bi, n_biq, n_ix, n_sl, n_srev, n_tup, n_lst, n_lstQ, n_comp, n_compQ, n_nil, n_nilO, n_cons, n_star, n_seqI, n_rg1, n_rg2, n_zip, n_enum, n_varQ, n_callQ, n_ixQ, n_slQ, n_srevQ, n_glQ, n_tupQ, n_binQ, n_biQ, n_biqQ, n_iteQ, n_litO, n_varO, n_binO, v_add, v_sub, v_mul, v_fdiv, v_mod, v_pow, v_adds, v_addt, v_lt, v_le, v_gt, v_ge, v_eq, v_ne, v_eqt, v_net, v_eqs, v_nes, v_eql, v_trb, v_abs, v_min, v_max, v_int, v_intb, v_lent, v_isi, v_ixt, v_tup, v_lst, v_lstq, x_nil, x_seq, x_nx, x_rt, x_bk, x_ct, x_set, x_setK, x_asg, x_asgK, x_par, x_parK, x_sub, x_subK, x_aug, x_augK, x_drop, x_ite, x_whl, x_for, x_ret, x_retN, x_brk, x_cont, x_pass, x_tru, x_wh, x_lnx, x_lct, x_lbk, x_lrt, x_turn, x_putn, x_putt, x_puts0, x_puts, x_ps0, x_ps, x_forv, x_fort, x_forl0, x_forl, x_cF, x_cv, x_ct', x_cl0, x_cl, x_t0, x_t1, x_w0, x_w, x_el, v_allv, v_allt, v_srct, v_sall, v_stup, v_nilB, v_rng1, Option.join_some, List.getElem?_cons_zero, List.getElem?_cons_succ, List.length_cons, List.length_nil, List.set_cons_zero, List.set_cons_succ, if_true, if_false, ite_true, ite_false, List.nil_append, List.append_nil, List.cons_append, Option.bind_some, Option.map_some, Option.elim_some, List.map_cons, List.map_nil, List.replicate_succ, List.replicate_zero, Nat.reduceSub, Nat.reduceAdd, Nat.reduceLT, Nat.sub_self, Nat.zero_lt_succ, Nat.lt_add_one, Bool.false_eq_true, Bool.not_true, Bool.not_false, at0, at1, decide_eq_false h1, m1, m3]
    rw [hr]
    simp only [n_bind, n_bindS, n_go, n_some, n_none, n_nox, n_var, n_gl, n_lit, n_bin, n_neg, n_not, n_cmp, n_chn, n_chnT, n_chnF, n_and, n_or, n_ite, n_call, n_bi, n_biq, n_ix, n_sl, n_srev, n_tup, n_lst, n_lstQ, n_comp, n_compQ, n_nil, n_nilO, n_cons, n_star, n_seqI, n_rg1, n_rg2, n_zip, n_enum, n_varQ, n_callQ, n_ixQ, n_slQ, n_srevQ, n_glQ, n_tupQ, n_binQ, n_biQ, n_biqQ, n_iteQ, n_litO, n_varO, n_binO, v_add, v_sub, v_mul, v_fdiv, v_mod, v_pow, v_adds, v_addt, v_lt, v_le, v_gt, v_ge, v_eq, v_ne, v_eqt, v_net, v_eqs, v_nes, v_eql, v_trb, v_abs, v_min, v_max, v_int, v_intb, v_lent, v_isi, v_ixt, v_tup, v_lst, v_lstq, x_nil, x_seq, x_nx, x_rt, x_bk, x_ct, x_set, x_setK, x_asg, x_asgK, x_par, x_parK, x_sub, x_subK, x_aug, x_augK, x_drop, x_ite, x_whl, x_for, x_ret, x_retN, x_brk, x_cont, x_pass, x_tru, x_wh, x_lnx, x_lct, x_lbk, x_lrt, x_turn, x_putn, x_putt, x_puts0, x_puts, x_ps0, x_ps, x_forv, x_fort, x_forl0, x_forl, x_cF, x_cv, x_ct', x_cl0, x_cl, x_t0, x_t1, x_w0, x_w, x_el, v_allv, v_allt, v_srct, v_sall, v_stup, v_nilB, v_rng1, Option.join_some, List.getElem?_cons_zero, List.getElem?_cons_succ, List.length_cons, List.length_nil, List.set_cons_zero, List.set_cons_succ, if_true, if_false, ite_true, ite_false, List.nil_append, List.append_nil, List.cons_append, Option.bind_some, Option.map_some, Option.elim_some, List.map_cons, List.map_nil, List.replicate_succ, List.replicate_zero, Nat.reduceSub, Nat.reduceAdd, Nat.reduceLT, Nat.sub_self, Nat.zero_lt_succ, Nat.lt_add_one, Bool.false_eq_true, Bool.not_true, Bool.not_false, fr]
theorem opp_ok {q : Rat} : runF fds W (n + 1) 9 [fr q] m = .ok (fr (-q)) m := by
  rw [runF_at (f := ⟨1, 1, b9⟩) rfl]
  refine c_ret rfl ?_
  have e : (0 : Int) - q.num = (-q).num := by rw [Rat.neg_num]; omega
  simp only [b9, fr, n_bind, n_bindS, n_go, n_some, n_none, n_nox, n_var, n_gl, n_lit, n_bin, n_neg, n_not, n_cmp, n_chn, n_chnT, n_chnF, n_and, n_or, n_ite, n_call, n_bi, n_biq, n_ix, n_sl, n_srev, n_tup, n_lst, n_lstQ, n_comp, n_compQ, n_nil, n_nilO, n_cons, n_star, n_seqI, n_rg1, n_rg2, n_zip, n_enum, n_varQ, n_callQ, n_ixQ, n_slQ, n_srevQ, n_glQ, n_tupQ, n_binQ, n_biQ, n_biqQ, n_iteQ, n_litO, n_varO, n_binO, v_add, v_sub, v_mul, v_fdiv, v_mod, v_pow, v_adds, v_addt, v_lt, v_le, v_gt, v_ge, v_eq, v_ne, v_eqt, v_net, v_eqs, v_nes, v_eql, v_trb, v_abs, v_min, v_max, v_int, v_intb, v_lent, v_isi, v_ixt, v_tup, v_lst, v_lstq, x_nil, x_seq, x_nx, x_rt, x_bk, x_ct, x_set, x_setK, x_asg, x_asgK, x_par, x_parK, x_sub, x_subK, x_aug, x_augK, x_drop, x_ite, x_whl, x_for, x_ret, x_retN, x_brk, x_cont, x_pass, x_tru, x_wh, x_lnx, x_lct, x_lbk, x_lrt, x_turn, x_putn, x_putt, x_puts0, x_puts, x_ps0, x_ps, x_forv, x_fort, x_forl0, x_forl, x_cF, x_cv, x_ct', x_cl0, x_cl, x_t0, x_t1, x_w0, x_w, x_el, v_allv, v_allt, v_srct, v_sall, v_stup, v_nilB, v_rng1, Option.join_some, List.getElem?_cons_zero, List.getElem?_cons_succ, List.length_cons, List.length_nil, List.set_cons_zero, List.set_cons_succ, if_true, if_false, ite_true, ite_false, List.nil_append, List.append_nil, List.cons_append, Option.bind_some, Option.map_some, Option.elim_some, List.map_cons, List.map_nil, List.replicate_succ, List.replicate_zero, Nat.reduceSub, Nat.reduceAdd, Nat.reduceLT, Nat.sub_self, Nat.zero_lt_succ, Nat.lt_add_one, Bool.false_eq_true, Bool.not_true, Bool.not_false, at0, at1, f2, e]
  rfl
theorem plus_ok (hW : 2 ^ 8000 ≤ W) {p q : Rat} (hp : Sz 3000 p) (hq : Sz 3000 q) : runF fds W (n + 4) 12 [fr p, fr q] m = .ok (fr (p + q)) m := by
  rw [runF_at (f := ⟨2, 2, b12⟩) rfl]
  refine c_ret rfl ?_
  simp only [b12, n_bind, n_bindS, n_go, n_some, n_none, n_nox, n_var, n_gl, n_lit, n_bin, n_neg, n_not, n_cmp, n_chn, n_chnT, n_chnF, n_and, n_or, n_ite, n_call, n_bi, n_biq, n_ix, n_sl, n_srev, n_tup, n_lst, n_lstQ, n_comp, n_compQ, n_nil, n_nilO, n_cons, n_star, n_seqI, n_rg1, n_rg2, n_zip, n_enum, n_varQ, n_callQ, n_ixQ, n_slQ, n_srevQ, n_glQ, n_tupQ, n_binQ, n_biQ, n_biqQ, n_iteQ, n_litO, n_varO, n_binO, v_add, v_sub, v_mul, v_fdiv, v_mod, v_pow, v_adds, v_addt, v_lt, v_le, v_gt, v_ge, v_eq, v_ne, v_eqt, v_net, v_eqs, v_nes, v_eql, v_trb, v_abs, v_min, v_max, v_int, v_intb, v_lent, v_isi, v_ixt, v_tup, v_lst, v_lstq, x_nil, x_seq, x_nx, x_rt, x_bk, x_ct, x_set, x_setK, x_asg, x_asgK, x_par, x_parK, x_sub, x_subK, x_aug, x_augK, x_drop, x_ite, x_whl, x_for, x_ret, x_retN, x_brk, x_cont, x_pass, x_tru, x_wh, x_lnx, x_lct, x_lbk, x_lrt, x_turn, x_putn, x_putt, x_puts0, x_puts, x_ps0, x_ps, x_forv, x_fort, x_forl0, x_forl, x_cF, x_cv, x_ct', x_cl0, x_cl, x_t0, x_t1, x_w0, x_w, x_el, v_allv, v_allt, v_srct, v_sall, v_stup, v_nilB, v_rng1, Option.join_some, List.getElem?_cons_zero, List.getElem?_cons_succ, List.length_cons, List.length_nil, List.set_cons_zero, List.set_cons_succ, if_true, if_false, ite_true, ite_false, List.nil_append, List.append_nil, List.cons_append, Option.bind_some, Option.map_some, Option.elim_some, List.map_cons, List.map_nil, List.replicate_succ, List.replicate_zero, Nat.reduceSub, Nat.reduceAdd, Nat.reduceLT, Nat.sub_self, Nat.zero_lt_succ, Nat.lt_add_one, Bool.false_eq_true, Bool.not_true, Bool.not_false, req_ok hW (hp.mono (show 3000 ≤ 8000 by decide)), req_ok hW (hq.mono (show 3000 ≤ 8000 by decide)), add_ok hW hp hq]
theorem minus_ok (hW : 2 ^ 8000 ≤ W) {p q : Rat} (hp : Sz 3000 p) (hq : Sz 3000 q) : runF fds W (n + 4) 13 [fr p, fr q] m = .ok (fr (p - q)) m := by
  rw [runF_at (f := ⟨2, 2, b13⟩) rfl]
  refine c_ret rfl ?_
  rw [Rat.sub_eq_add_neg]
  simp only [b13, n_bind, n_bindS, n_go, n_some, n_none, n_nox, n_var, n_gl, n_lit, n_bin, n_neg, n_not, n_cmp, n_chn, n_chnT, n_chnF, n_and, n_or, n_ite, n_call, n_bi, n_biq, n_ix, n_sl, n_srev, n_tup, n_lst, n_lstQ, n_comp, n_compQ, n_nil, n_nilO, n_cons, n_star, n_seqI, n_rg1, n_rg2, n_zip, n_enum, n_varQ, n_callQ, n_ixQ, n_slQ, n_srevQ, n_glQ, n_tupQ, n_binQ, n_biQ, n_biqQ, n_iteQ, n_litO, n_varO, n_binO, v_add, v_sub, v_mul, v_fdiv, v_mod, v_pow, v_adds, v_addt, v_lt, v_le, v_gt, v_ge, v_eq, v_ne, v_eqt, v_net, v_eqs, v_nes, v_eql, v_trb, v_abs, v_min, v_max, v_int, v_intb, v_lent, v_isi, v_ixt, v_tup, v_lst, v_lstq, x_nil, x_seq, x_nx, x_rt, x_bk, x_ct, x_set, x_setK, x_asg, x_asgK, x_par, x_parK, x_sub, x_subK, x_aug, x_augK, x_drop, x_ite, x_whl, x_for, x_ret, x_retN, x_brk, x_cont, x_pass, x_tru, x_wh, x_lnx, x_lct, x_lbk, x_lrt, x_turn, x_putn, x_putt, x_puts0, x_puts, x_ps0, x_ps, x_forv, x_fort, x_forl0, x_forl, x_cF, x_cv, x_ct', x_cl0, x_cl, x_t0, x_t1, x_w0, x_w, x_el, v_allv, v_allt, v_srct, v_sall, v_stup, v_nilB, v_rng1, Option.join_some, List.getElem?_cons_zero, List.getElem?_cons_succ, List.length_cons, List.length_nil, List.set_cons_zero, List.set_cons_succ, if_true, if_false, ite_true, ite_false, List.nil_append, List.append_nil, List.cons_append, Option.bind_some, Option.map_some, Option.elim_some, List.map_cons, List.map_nil, List.replicate_succ, List.replicate_zero, Nat.reduceSub, Nat.reduceAdd, Nat.reduceLT, Nat.sub_self, Nat.zero_lt_succ, Nat.lt_add_one, Bool.false_eq_true, Bool.not_true, Bool.not_false, req_ok hW (hp.mono (show 3000 ≤ 8000 by decide)), req_ok hW (hq.mono (show 3000 ≤ 8000 by decide)), opp_ok, add_ok hW hp hq.neg]
theorem times_ok (hW : 2 ^ 8000 ≤ W) {p q : Rat} (hp : Sz 3000 p) (hq : Sz 3000 q) : runF fds W (n + 4) 14 [fr p, fr q] m = .ok (fr (p * q)) m := by
  rw [runF_at (f := ⟨2, 2, b14⟩) rfl]
  refine c_ret rfl ?_
  simp only [b14, n_bind, n_bindS, n_go, n_some, n_none, n_nox, n_var, n_gl, n_lit, n_bin, n_neg, n_not, n_cmp, n_chn, n_chnT, n_chnF, n_and, n_or, n_ite, n_call, n_bi, n_biq, n_ix, n_sl, n_srev, n_tup, n_lst, n_lstQ, n_comp, n_compQ, n_nil, n_nilO, n_cons, n_star, n_seqI, n_rg1, n_rg2, n_zip, n_enum, n_varQ, n_callQ, n_ixQ, n_slQ, n_srevQ, n_glQ, n_tupQ, n_binQ, n_biQ, n_biqQ, n_iteQ, n_litO, n_varO, n_binO, v_add, v_sub, v_mul, v_fdiv, v_mod, v_pow, v_adds, v_addt, v_lt, v_le, v_gt, v_ge, v_eq, v_ne, v_eqt, v_net, v_eqs, v_nes, v_eql, v_trb, v_abs, v_min, v_max, v_int, v_intb, v_lent, v_isi, v_ixt, v_tup, v_lst, v_lstq, x_nil, x_seq, x_nx, x_rt, x_bk, x_ct, x_set, x_setK, x_asg, x_asgK, x_par, x_parK, x_sub, x_subK, x_aug, x_augK, x_drop, x_ite, x_whl, x_for, x_ret, x_retN, x_brk, x_cont, x_pass, x_tru, x_wh, x_lnx, x_lct, x_lbk, x_lrt, x_turn, x_putn, x_putt, x_puts0, x_puts, x_ps0, x_ps, x_forv, x_fort, x_forl0, x_forl, x_cF, x_cv, x_ct', x_cl0, x_cl, x_t0, x_t1, x_w0, x_w, x_el, v_allv, v_allt, v_srct, v_sall, v_stup, v_nilB, v_rng1, Option.join_some, List.getElem?_cons_zero, List.getElem?_cons_succ, List.length_cons, List.length_nil, List.set_cons_zero, List.set_cons_succ, if_true, if_false, ite_true, ite_false, List.nil_append, List.append_nil, List.cons_append, Option.bind_some, Option.map_some, Option.elim_some, List.map_cons, List.map_nil, List.replicate_succ, List.replicate_zero, Nat.reduceSub, Nat.reduceAdd, Nat.reduceLT, Nat.sub_self, Nat.zero_lt_succ, Nat.lt_add_one, Bool.false_eq_true, Bool.not_true, Bool.not_false, req_ok hW (hp.mono (show 3000 ≤ 8000 by decide)), req_ok hW (hq.mono (show 3000 ≤ 8000 by decide)), mul_ok hW hp hq]
theorem div_divInt {p q : Rat} (h : q.num ≠ 0) : p / q = Rat.divInt (p.num * q.den) (p.den * q.num) := by
  rw [Rat.div_def, Rat.inv_def]
  conv => lhs; rw [← Rat.num_divInt_den p]
  rw [Rat.divInt_mul_divInt]
theorem eqv_fr {p q : Rat} : PyData.eqv (.tuple [.int p.num, .int p.den]) (.tuple [.int q.num, .int q.den]) = decide (p = q) := by
  simp only [PyData.eqv, PyData.eqvAll, Bool.and_true]
  by_cases h : p = q
  · subst h; simp
  · rw [decide_eq_false h, Bool.and_eq_false_iff]
    by_cases h1 : p.num = q.num
    · right
      refine beq_false_of_ne fun z => h (fr_inj h1 z)
    · left
      exact beq_false_of_ne h1
theorem eqD_fr {p q : Rat} : eqD m (fr p) (fr q) = some (decide (p = q)) := by rw [← eqv_fr]; rfl
theorem eq_fr {p q : Rat} : cmpV .eq m (fr p) (fr q) = .ok (.bl (decide (p = q))) m := by
  have := eqD_fr (m := m) (p := p) (q := q)
  unfold fr at this ⊢
  rw [v_eqt, this]; rfl
theorem ne_fr {p q : Rat} : cmpV .ne m (fr p) (fr q) = .ok (.bl (!decide (p = q))) m := by
  have := eqD_fr (m := m) (p := p) (q := q)
  unfold fr at this ⊢
  rw [v_net, this]; rfl
theorem over_ok (hW : 2 ^ 8000 ≤ W) {p q : Rat} (hp : Sz 3000 p) (hq : Sz 3000 q) (h0 : q ≠ 0) : runF fds W (n + 4) 15 [fr p, fr q] m = .ok (fr (p / q)) m := by
  rw [runF_at (f := ⟨2, 2, b15⟩) rfl]
  refine c_ret rfl ?_
  have hn : q.num ≠ 0 := fun z => h0 (Rat.num_eq_zero.mp z)
  have e0 : (D.tup [.int 0, .int 1]) = fr 0 := rfl
  have m1 := hp.1.mulOk hq.2 (by decide)
  have m2 := hp.2.mulOk hq.1 (by decide)
  have hz : (p.den : Int) * q.num ≠ 0 := Int.mul_ne_zero (den_ne p) hn
  have hr : runF fds W (n + 2) 3 [.int (p.num * q.den), .int (p.den * q.num)] m = .ok (fr (p / q)) m := by
    rw [red_ok hW hz ((hp.2.mul hq.1).mono (by decide)), div_divInt hn]
  have hd : runF fds W (n + 3) 10 [fr p, fr q] m = .ok (fr (p / q)) m := by
    rw [runF_at (f := ⟨2, 2, b10⟩) rfl]
    refine c_ret rfl ?_
    simp only [b10, fr, n_bind, n_bindS, n_go, n_some, n_none, n_nox, n_var, n_gl, n_lit, n_bin, n_neg, n_not, n_cmp, n_chn, n_chnT, n_chnF, n_and, n_or, n_ite, n_call, n_bi, n_biq, n_ix, n_sl, n_srev, n_tup, n_lst, n_lstQ, n_comp, n_compQ, n_nil, n_nilO, n_cons, n_star, n_seqI, n_rg1, n_rg2, n_zip, n_enum, n_varQ, n_callQ, n_ixQ, n_slQ, n_srevQ, n_glQ, n_tupQ, n_binQ, n_biQ, n_biqQ, n_iteQ, n_litO, n_varO, n_binO, v_add, v_sub, v_mul, v_fdiv, v_mod, v_pow, v_adds, v_addt, v_lt, v_le, v_gt, v_ge, v_eq, v_ne, v_eqt, v_net, v_eqs, v_nes, v_eql, v_trb, v_abs, v_min, v_max, v_int, v_intb, v_lent, v_isi, v_ixt, v_tup, v_lst, v_lstq, x_nil, x_seq, x_nx, x_rt, x_bk, x_ct, x_set, x_setK, x_asg, x_asgK, x_par, x_parK, x_sub, x_subK, x_aug, x_augK, x_drop, x_ite, x_whl, x_for, x_ret, x_retN, x_brk, x_cont, x_pass, x_tru, x_wh, x_lnx, x_lct, x_lbk, x_lrt, x_turn, x_putn, x_putt, x_puts0, x_puts, x_ps0, x_ps, x_forv, x_fort, x_forl0, x_forl, x_cF, x_cv, x_ct', x_cl0, x_cl, x_t0, x_t1, x_w0, x_w, x_el, v_allv, v_allt, v_srct, v_sall, v_stup, v_nilB, v_rng1, Option.join_some, List.getElem?_cons_zero, List.getElem?_cons_succ, List.length_cons, List.length_nil, List.set_cons_zero, List.set_cons_succ, if_true, if_false, ite_true, ite_false, List.nil_append, List.append_nil, List.cons_append, Option.bind_some, Option.map_some, Option.elim_some, List.map_cons, List.map_nil, List.replicate_succ, List.replicate_zero, Nat.reduceSub, Nat.reduceAdd, Nat.reduceLT, Nat.sub_self, Nat.zero_lt_succ, Nat.lt_add_one, Bool.false_eq_true, Bool.not_true, Bool.not_false, at0, at1, m1, m2]
    rw [hr]
    simp only [n_bind, n_bindS, n_go, n_some, n_none, n_nox, n_var, n_gl, n_lit, n_bin, n_neg, n_not, n_cmp, n_chn, n_chnT, n_chnF, n_and, n_or, n_ite, n_call, n_bi, n_biq, n_ix, n_sl, n_srev, n_tup, n_lst, n_lstQ, n_comp, n_compQ, n_nil, n_nilO, n_cons, n_star, n_seqI, n_rg1, n_rg2, n_zip, n_enum, n_varQ, n_callQ, n_ixQ, n_slQ, n_srevQ, n_glQ, n_tupQ, n_binQ, n_biQ, n_biqQ, n_iteQ, n_litO, n_varO, n_binO, v_add, v_sub, v_mul, v_fdiv, v_mod, v_pow, v_adds, v_addt, v_lt, v_le, v_gt, v_ge, v_eq, v_ne, v_eqt, v_net, v_eqs, v_nes, v_eql, v_trb, v_abs, v_min, v_max, v_int, v_intb, v_lent, v_isi, v_ixt, v_tup, v_lst, v_lstq, x_nil, x_seq, x_nx, x_rt, x_bk, x_ct, x_set, x_setK, x_asg, x_asgK, x_par, x_parK, x_sub, x_subK, x_aug, x_augK, x_drop, x_ite, x_whl, x_for, x_ret, x_retN, x_brk, x_cont, x_pass, x_tru, x_wh, x_lnx, x_lct, x_lbk, x_lrt, x_turn, x_putn, x_putt, x_puts0, x_puts, x_ps0, x_ps, x_forv, x_fort, x_forl0, x_forl, x_cF, x_cv, x_ct', x_cl0, x_cl, x_t0, x_t1, x_w0, x_w, x_el, v_allv, v_allt, v_srct, v_sall, v_stup, v_nilB, v_rng1, Option.join_some, List.getElem?_cons_zero, List.getElem?_cons_succ, List.length_cons, List.length_nil, List.set_cons_zero, List.set_cons_succ, if_true, if_false, ite_true, ite_false, List.nil_append, List.append_nil, List.cons_append, Option.bind_some, Option.map_some, Option.elim_some, List.map_cons, List.map_nil, List.replicate_succ, List.replicate_zero, Nat.reduceSub, Nat.reduceAdd, Nat.reduceLT, Nat.sub_self, Nat.zero_lt_succ, Nat.lt_add_one, Bool.false_eq_true, Bool.not_true, Bool.not_false, fr]
  have ec : cmpV .eq m (fr q) (fr 0) = .ok (.bl false) m := by rw [eq_fr, decide_eq_false h0]
  simp only [b15, n_bind, n_bindS, n_go, n_some, n_none, n_nox, n_var, n_gl, n_lit, n_bin, n_neg, n_not, n_cmp, n_chn, n_chnT, n_chnF, n_and, n_or, n_ite, n_call, n_bi, n_biq, n_ix, n_sl, n_srev, n_tup, n_lst, n_lstQ, n_comp, n_compQ, n_nil, n_nilO, n_cons, n_star, n_seqI, n_rg1, n_rg2, n_zip, n_enum, n_varQ, n_callQ, n_ixQ, n_slQ, n_srevQ, n_glQ, n_tupQ, n_binQ, n_biQ, n_biqQ, n_iteQ, n_litO, n_varO, n_binO, v_add, v_sub, v_mul, v_fdiv, v_mod, v_pow, v_adds, v_addt, v_lt, v_le, v_gt, v_ge, v_eq, v_ne, v_eqt, v_net, v_eqs, v_nes, v_eql, v_trb, v_abs, v_min, v_max, v_int, v_intb, v_lent, v_isi, v_ixt, v_tup, v_lst, v_lstq, x_nil, x_seq, x_nx, x_rt, x_bk, x_ct, x_set, x_setK, x_asg, x_asgK, x_par, x_parK, x_sub, x_subK, x_aug, x_augK, x_drop, x_ite, x_whl, x_for, x_ret, x_retN, x_brk, x_cont, x_pass, x_tru, x_wh, x_lnx, x_lct, x_lbk, x_lrt, x_turn, x_putn, x_putt, x_puts0, x_puts, x_ps0, x_ps, x_forv, x_fort, x_forl0, x_forl, x_cF, x_cv, x_ct', x_cl0, x_cl, x_t0, x_t1, x_w0, x_w, x_el, v_allv, v_allt, v_srct, v_sall, v_stup, v_nilB, v_rng1, Option.join_some, List.getElem?_cons_zero, List.getElem?_cons_succ, List.length_cons, List.length_nil, List.set_cons_zero, List.set_cons_succ, if_true, if_false, ite_true, ite_false, List.nil_append, List.append_nil, List.cons_append, Option.bind_some, Option.map_some, Option.elim_some, List.map_cons, List.map_nil, List.replicate_succ, List.replicate_zero, Nat.reduceSub, Nat.reduceAdd, Nat.reduceLT, Nat.sub_self, Nat.zero_lt_succ, Nat.lt_add_one, Bool.false_eq_true, Bool.not_true, Bool.not_false, req_ok hW (hp.mono (show 3000 ≤ 8000 by decide)), req_ok hW (hq.mono (show 3000 ≤ 8000 by decide)), e0, ec, hd]
def cmpI (p q : Rat) : Int := (if p.num * q.den > q.num * p.den then 1 else 0) - (if p.num * q.den < q.num * p.den then 1 else 0)
theorem compd_ok (hW : 2 ^ 8000 ≤ W) {p q : Rat} (hp : Sz 3000 p) (hq : Sz 3000 q) : runF fds W (n + 4) 16 [fr p, fr q] m = .ok (.int (cmpI p q)) m := by
  rw [runF_at (f := ⟨2, 4, b16⟩) rfl]
  refine c_ret rfl ?_
  have m1 := hp.1.mulOk hq.2 (by decide)
  have m2 := hq.1.mulOk hp.2 (by decide)
  simp only [b16, n_bind, n_bindS, n_go, n_some, n_none, n_nox, n_var, n_gl, n_lit, n_bin, n_neg, n_not, n_cmp, n_chn, n_chnT, n_chnF, n_and, n_or, n_ite, n_call, n_bi, n_biq, n_ix, n_sl, n_srev, n_tup, n_lst, n_lstQ, n_comp, n_compQ, n_nil, n_nilO, n_cons, n_star, n_seqI, n_rg1, n_rg2, n_zip, n_enum, n_varQ, n_callQ, n_ixQ, n_slQ, n_srevQ, n_glQ, n_tupQ, n_binQ, n_biQ, n_biqQ, n_iteQ, n_litO, n_varO, n_binO, v_add, v_sub, v_mul, v_fdiv, v_mod, v_pow, v_adds, v_addt, v_lt, v_le, v_gt, v_ge, v_eq, v_ne, v_eqt, v_net, v_eqs, v_nes, v_eql, v_trb, v_abs, v_min, v_max, v_int, v_intb, v_lent, v_isi, v_ixt, v_tup, v_lst, v_lstq, x_nil, x_seq, x_nx, x_rt, x_bk, x_ct, x_set, x_setK, x_asg, x_asgK, x_par, x_parK, x_sub, x_subK, x_aug, x_augK, x_drop, x_ite, x_whl, x_for, x_ret, x_retN, x_brk, x_cont, x_pass, x_tru, x_wh, x_lnx, x_lct, x_lbk, x_lrt, x_turn, x_putn, x_putt, x_puts0, x_puts, x_ps0, x_ps, x_forv, x_fort, x_forl0, x_forl, x_cF, x_cv, x_ct', x_cl0, x_cl, x_t0, x_t1, x_w0, x_w, x_el, v_allv, v_allt, v_srct, v_sall, v_stup, v_nilB, v_rng1, Option.join_some, List.getElem?_cons_zero, List.getElem?_cons_succ, List.length_cons, List.length_nil, List.set_cons_zero, List.set_cons_succ, if_true, if_false, ite_true, ite_false, List.nil_append, List.append_nil, List.cons_append, Option.bind_some, Option.map_some, Option.elim_some, List.map_cons, List.map_nil, List.replicate_succ, List.replicate_zero, Nat.reduceSub, Nat.reduceAdd, Nat.reduceLT, Nat.sub_self, Nat.zero_lt_succ, Nat.lt_add_one, Bool.false_eq_true, Bool.not_true, Bool.not_false, req_ok hW (hp.mono (show 3000 ≤ 8000 by decide)), req_ok hW (hq.mono (show 3000 ≤ 8000 by decide))]
  simp only [fr, n_bind, n_bindS, n_go, n_some, n_none, n_nox, n_var, n_gl, n_lit, n_bin, n_neg, n_not, n_cmp, n_chn, n_chnT, n_chnF, n_and, n_or, n_ite, n_call, n_bi, n_biq, n_ix, n_sl, n_srev, n_tup, n_lst, n_lstQ, n_comp, n_compQ, n_nil, n_nilO, n_cons, n_star, n_seqI, n_rg1, n_rg2, n_zip, n_enum, n_varQ, n_callQ, n_ixQ, n_slQ, n_srevQ, n_glQ, n_tupQ, n_binQ, n_biQ, n_biqQ, n_iteQ, n_litO, n_varO, n_binO, v_add, v_sub, v_mul, v_fdiv, v_mod, v_pow, v_adds, v_addt, v_lt, v_le, v_gt, v_ge, v_eq, v_ne, v_eqt, v_net, v_eqs, v_nes, v_eql, v_trb, v_abs, v_min, v_max, v_int, v_intb, v_lent, v_isi, v_ixt, v_tup, v_lst, v_lstq, x_nil, x_seq, x_nx, x_rt, x_bk, x_ct, x_set, x_setK, x_asg, x_asgK, x_par, x_parK, x_sub, x_subK, x_aug, x_augK, x_drop, x_ite, x_whl, x_for, x_ret, x_retN, x_brk, x_cont, x_pass, x_tru, x_wh, x_lnx, x_lct, x_lbk, x_lrt, x_turn, x_putn, x_putt, x_puts0, x_puts, x_ps0, x_ps, x_forv, x_fort, x_forl0, x_forl, x_cF, x_cv, x_ct', x_cl0, x_cl, x_t0, x_t1, x_w0, x_w, x_el, v_allv, v_allt, v_srct, v_sall, v_stup, v_nilB, v_rng1, Option.join_some, List.getElem?_cons_zero, List.getElem?_cons_succ, List.length_cons, List.length_nil, List.set_cons_zero, List.set_cons_succ, if_true, if_false, ite_true, ite_false, List.nil_append, List.append_nil, List.cons_append, Option.bind_some, Option.map_some, Option.elim_some, List.map_cons, List.map_nil, List.replicate_succ, List.replicate_zero, Nat.reduceSub, Nat.reduceAdd, Nat.reduceLT, Nat.sub_self, Nat.zero_lt_succ, Nat.lt_add_one, Bool.false_eq_true, Bool.not_true, Bool.not_false, at0, at1, m1, m2, decide_eq_true_eq]
  rfl
theorem fr_loop {fs : Fs} {W0 : Nat} {x y z : Option D} : ∀ (W : Nat) (a b : Nat), b < W →
    whileL (tru (ev fs W0 (.cmp .gt (.var 3) (.lit (.int 0)))).v) (ex fs W0 (.seq (.par [2, 3] (.cons (.var 3) (.cons (.bin .mod (.var 2) (.var 3)) .nil))) .nil)) W [x, y, some (.int a), some (.int b), z] m = .ok (.nx [x, y, some (.int (Nat.gcd a b)), some (.int 0), z]) m := by
  intro W
  induction W with
  | zero => intro a b h; omega
  | succ W ih =>
    intro a b h
    by_cases hb : b = 0
    · subst hb
      simp [n_bind, n_bindS, n_go, n_some, n_none, n_nox, n_var, n_gl, n_lit, n_bin, n_neg, n_not, n_cmp, n_chn, n_chnT, n_chnF, n_and, n_or, n_ite, n_call, n_bi, n_biq, n_ix, n_sl, n_srev, n_tup, n_lst, n_lstQ, n_comp, n_compQ, n_nil, n_nilO, n_cons, n_star, n_seqI, n_rg1, n_rg2, n_zip, n_enum, n_varQ, n_callQ, n_ixQ, n_slQ, n_srevQ, n_glQ, n_tupQ, n_binQ, n_biQ, n_biqQ, n_iteQ, n_litO, n_varO, n_binO, v_add, v_sub, v_mul, v_fdiv, v_mod, v_pow, v_adds, v_addt, v_lt, v_le, v_gt, v_ge, v_eq, v_ne, v_eqt, v_net, v_eqs, v_nes, v_eql, v_trb, v_abs, v_min, v_max, v_int, v_intb, v_lent, v_isi, v_ixt, v_tup, v_lst, v_lstq, x_nil, x_seq, x_nx, x_rt, x_bk, x_ct, x_set, x_setK, x_asg, x_asgK, x_par, x_parK, x_sub, x_subK, x_aug, x_augK, x_drop, x_ite, x_whl, x_for, x_ret, x_retN, x_brk, x_cont, x_pass, x_tru, x_wh, x_lnx, x_lct, x_lbk, x_lrt, x_turn, x_putn, x_putt, x_puts0, x_puts, x_ps0, x_ps, x_forv, x_fort, x_forl0, x_forl, x_cF, x_cv, x_ct', x_cl0, x_cl, x_t0, x_t1, x_w0, x_w, x_el, v_allv, v_allt, v_srct, v_sall, v_stup, v_nilB, v_rng1, Option.join_some, List.getElem?_cons_zero, List.getElem?_cons_succ, List.length_cons, List.length_nil, List.set_cons_zero, List.set_cons_succ, if_true, if_false, ite_true, ite_false, List.nil_append, List.append_nil, List.cons_append, Option.bind_some, Option.map_some, Option.elim_some, List.map_cons, List.map_nil, List.replicate_succ, List.replicate_zero, Nat.reduceSub, Nat.reduceAdd, Nat.reduceLT, Nat.sub_self, Nat.zero_lt_succ, Nat.lt_add_one, Bool.false_eq_true, Bool.not_true, Bool.not_false]
    · have h1 : (0 : Int) < b := by omega
      have h2 : (b : Int) ≠ 0 := by omega
      have e : (a : Int).fmod b = ((a % b : Nat) : Int) := by
        rw [Int.fmod_eq_emod_of_nonneg _ (by omega)]; rfl
      simp only [n_bind, n_bindS, n_go, n_some, n_none, n_nox, n_var, n_gl, n_lit, n_bin, n_neg, n_not, n_cmp, n_chn, n_chnT, n_chnF, n_and, n_or, n_ite, n_call, n_bi, n_biq, n_ix, n_sl, n_srev, n_tup, n_lst, n_lstQ, n_comp, n_compQ, n_nil, n_nilO, n_cons, n_star, n_seqI, n_rg1, n_rg2, n_zip, n_enum, n_varQ, n_callQ, n_ixQ, n_slQ, n_srevQ, n_glQ, n_tupQ, n_binQ, n_biQ, n_biqQ, n_iteQ, n_litO, n_varO, n_binO, v_add, v_sub, v_mul, v_fdiv, v_mod, v_pow, v_adds, v_addt, v_lt, v_le, v_gt, v_ge, v_eq, v_ne, v_eqt, v_net, v_eqs, v_nes, v_eql, v_trb, v_abs, v_min, v_max, v_int, v_intb, v_lent, v_isi, v_ixt, v_tup, v_lst, v_lstq, x_nil, x_seq, x_nx, x_rt, x_bk, x_ct, x_set, x_setK, x_asg, x_asgK, x_par, x_parK, x_sub, x_subK, x_aug, x_augK, x_drop, x_ite, x_whl, x_for, x_ret, x_retN, x_brk, x_cont, x_pass, x_tru, x_wh, x_lnx, x_lct, x_lbk, x_lrt, x_turn, x_putn, x_putt, x_puts0, x_puts, x_ps0, x_ps, x_forv, x_fort, x_forl0, x_forl, x_cF, x_cv, x_ct', x_cl0, x_cl, x_t0, x_t1, x_w0, x_w, x_el, v_allv, v_allt, v_srct, v_sall, v_stup, v_nilB, v_rng1, Option.join_some, List.getElem?_cons_zero, List.getElem?_cons_succ, List.length_cons, List.length_nil, List.set_cons_zero, List.set_cons_succ, if_true, if_false, ite_true, ite_false, List.nil_append, List.append_nil, List.cons_append, Option.bind_some, Option.map_some, Option.elim_some, List.map_cons, List.map_nil, List.replicate_succ, List.replicate_zero, Nat.reduceSub, Nat.reduceAdd, Nat.reduceLT, Nat.sub_self, Nat.zero_lt_succ, Nat.lt_add_one, Bool.false_eq_true, Bool.not_true, Bool.not_false, decide_true, h1, h2, e]
      rw [ih b (a % b) (by have := Nat.mod_lt a (Nat.pos_of_ne_zero hb); omega)]
      rw [Nat.gcd_comm b, ← Nat.gcd_rec, Nat.gcd_comm]
theorem lfr_ok (hW : 2 ^ 8000 ≤ W) {t b : Int} (hb : b ≠ 0) (ht : Lt 8000 t) (hs : Lt 8000 b) : runF fds W (n + 1) 22 [.int t, .int b] m = .ok (fr (Rat.divInt t b)) m := by
  rw [runF_at (f := ⟨2, 5, b22⟩) rfl]
  refine c_ret rfl ?_
  have hbW : b.natAbs < W := Nat.lt_of_lt_of_le hs hW
  have g0 : Nat.gcd t.natAbs b.natAbs ≠ 0 := fun z => by have := Nat.eq_zero_of_gcd_eq_zero_right z; omega
  have gl : Lt 8000 (Nat.gcd t.natAbs b.natAbs : Int) := hs.of_le (Nat.le_of_dvd (by omega) (Nat.gcd_dvd_right t.natAbs b.natAbs))
  have gz : decide ((Nat.gcd t.natAbs b.natAbs : Int) = 0) = false := decide_eq_false (by omega)
  have kk : ∀ x : Int, (decide ((Nat.gcd t.natAbs b.natAbs : Int) = 0) || Builtin.divisionGoesByPylong x (Nat.gcd t.natAbs b.natAbs)) = false := fun x => by rw [gl.noPy (by decide), gz]; rfl
  have fd : ∀ x : Int, x.fdiv (Nat.gcd t.natAbs b.natAbs : Int) = x / (Nat.gcd t.natAbs b.natAbs : Int) := fun x => Int.fdiv_eq_ediv_of_nonneg _ (by omega)
  have hdn := divInt_num (t := t) hb
  have hdd := divInt_den (t := t) hb
  have s1 : ∀ x : Int, Lt 8000 x → Ev.mulOk (-1) x = true ∧ Ev.mulOk 1 x = true := fun x hx => ⟨(show Lt 1 (-1) by decide).mulOk hx (by decide), (show Lt 1 1 by decide).mulOk hx (by decide)⟩
  by_cases hn : b < 0
  · rw [if_pos hn] at hdn hdd
    simp only [b22, n_bind, n_bindS, n_go, n_some, n_none, n_nox, n_var, n_gl, n_lit, n_bin, n_neg, n_not, n_cmp, n_chn, n_chnT, n_chnF, n_and, n_or, n_ite, n_call, n_bi, n_biq, n_ix, n_sl, n_srev, n_tup, n_lst, n_lstQ, n_comp, n_compQ, n_nil, n_nilO, n_cons, n_star, n_seqI, n_rg1, n_rg2, n_zip, n_enum, n_varQ, n_callQ, n_ixQ, n_slQ, n_srevQ, n_glQ, n_tupQ, n_binQ, n_biQ, n_biqQ, n_iteQ, n_litO, n_varO, n_binO, v_add, v_sub, v_mul, v_fdiv, v_mod, v_pow, v_adds, v_addt, v_lt, v_le, v_gt, v_ge, v_eq, v_ne, v_eqt, v_net, v_eqs, v_nes, v_eql, v_trb, v_abs, v_min, v_max, v_int, v_intb, v_lent, v_isi, v_ixt, v_tup, v_lst, v_lstq, x_nil, x_seq, x_nx, x_rt, x_bk, x_ct, x_set, x_setK, x_asg, x_asgK, x_par, x_parK, x_sub, x_subK, x_aug, x_augK, x_drop, x_ite, x_whl, x_for, x_ret, x_retN, x_brk, x_cont, x_pass, x_tru, x_wh, x_lnx, x_lct, x_lbk, x_lrt, x_turn, x_putn, x_putt, x_puts0, x_puts, x_ps0, x_ps, x_forv, x_fort, x_forl0, x_forl, x_cF, x_cv, x_ct', x_cl0, x_cl, x_t0, x_t1, x_w0, x_w, x_el, v_allv, v_allt, v_srct, v_sall, v_stup, v_nilB, v_rng1, Option.join_some, List.getElem?_cons_zero, List.getElem?_cons_succ, List.length_cons, List.length_nil, List.set_cons_zero, List.set_cons_succ, if_true, if_false, ite_true, ite_false, List.nil_append, List.append_nil, List.cons_append, Option.bind_some, Option.map_some, Option.elim_some, List.map_cons, List.map_nil, List.replicate_succ, List.replicate_zero, Nat.reduceSub, Nat.reduceAdd, Nat.reduceLT, Nat.sub_self, Nat.zero_lt_succ, Nat.lt_add_one, Bool.false_eq_true, Bool.not_true, Bool.not_false, abs_eq]
    rw [fr_loop W _ _ hbW]
    simp only [n_bind, n_bindS, n_go, n_some, n_none, n_nox, n_var, n_gl, n_lit, n_bin, n_neg, n_not, n_cmp, n_chn, n_chnT, n_chnF, n_and, n_or, n_ite, n_call, n_bi, n_biq, n_ix, n_sl, n_srev, n_tup, n_lst, n_lstQ, n_comp, n_compQ, n_nil, n_nilO, n_cons, n_star, n_seqI, n_rg1, n_rg2, n_zip, n_enum, n_varQ, n_callQ, n_ixQ, n_slQ, n_srevQ, n_glQ, n_tupQ, n_binQ, n_biQ, n_biqQ, n_iteQ, n_litO, n_varO, n_binO, v_add, v_sub, v_mul, v_fdiv, v_mod, v_pow, v_adds, v_addt, v_lt, v_le, v_gt, v_ge, v_eq, v_ne, v_eqt, v_net, v_eqs, v_nes, v_eql, v_trb, v_abs, v_min, v_max, v_int, v_intb, v_lent, v_isi, v_ixt, v_tup, v_lst, v_lstq, x_nil, x_seq, x_nx, x_rt, x_bk, x_ct, x_set, x_setK, x_asg, x_asgK, x_par, x_parK, x_sub, x_subK, x_aug, x_augK, x_drop, x_ite, x_whl, x_for, x_ret, x_retN, x_brk, x_cont, x_pass, x_tru, x_wh, x_lnx, x_lct, x_lbk, x_lrt, x_turn, x_putn, x_putt, x_puts0, x_puts, x_ps0, x_ps, x_forv, x_fort, x_forl0, x_forl, x_cF, x_cv, x_ct', x_cl0, x_cl, x_t0, x_t1, x_w0, x_w, x_el, v_allv, v_allt, v_srct, v_sall, v_stup, v_nilB, v_rng1, Option.join_some, List.getElem?_cons_zero, List.getElem?_cons_succ, List.length_cons, List.length_nil, List.set_cons_zero, List.set_cons_succ, if_true, if_false, ite_true, ite_false, List.nil_append, List.append_nil, List.cons_append, Option.bind_some, Option.map_some, Option.elim_some, List.map_cons, List.map_nil, List.replicate_succ, List.replicate_zero, Nat.reduceSub, Nat.reduceAdd, Nat.reduceLT, Nat.sub_self, Nat.zero_lt_succ, Nat.lt_add_one, Bool.false_eq_true, Bool.not_true, Bool.not_false, decide_eq_true hn, (s1 t ht).1, (s1 b hs).1, kk, f2, fd]
    unfold fr
    rw [hdn, hdd, show (-1 : Int) * t = -t by omega, show (-1 : Int) * b = -b by omega]
    rfl
  · rw [if_neg hn] at hdn hdd
    simp only [b22, n_bind, n_bindS, n_go, n_some, n_none, n_nox, n_var, n_gl, n_lit, n_bin, n_neg, n_not, n_cmp, n_chn, n_chnT, n_chnF, n_and, n_or, n_ite, n_call, n_bi, n_biq, n_ix, n_sl, n_srev, n_tup, n_lst, n_lstQ, n_comp, n_compQ, n_nil, n_nilO, n_cons, n_star, n_seqI, n_rg1, n_rg2, n_zip, n_enum, n_varQ, n_callQ, n_ixQ, n_slQ, n_srevQ, n_glQ, n_tupQ, n_binQ, n_biQ, n_biqQ, n_iteQ, n_litO, n_varO, n_binO, v_add, v_sub, v_mul, v_fdiv, v_mod, v_pow, v_adds, v_addt, v_lt, v_le, v_gt, v_ge, v_eq, v_ne, v_eqt, v_net, v_eqs, v_nes, v_eql, v_trb, v_abs, v_min, v_max, v_int, v_intb, v_lent, v_isi, v_ixt, v_tup, v_lst, v_lstq, x_nil, x_seq, x_nx, x_rt, x_bk, x_ct, x_set, x_setK, x_asg, x_asgK, x_par, x_parK, x_sub, x_subK, x_aug, x_augK, x_drop, x_ite, x_whl, x_for, x_ret, x_retN, x_brk, x_cont, x_pass, x_tru, x_wh, x_lnx, x_lct, x_lbk, x_lrt, x_turn, x_putn, x_putt, x_puts0, x_puts, x_ps0, x_ps, x_forv, x_fort, x_forl0, x_forl, x_cF, x_cv, x_ct', x_cl0, x_cl, x_t0, x_t1, x_w0, x_w, x_el, v_allv, v_allt, v_srct, v_sall, v_stup, v_nilB, v_rng1, Option.join_some, List.getElem?_cons_zero, List.getElem?_cons_succ, List.length_cons, List.length_nil, List.set_cons_zero, List.set_cons_succ, if_true, if_false, ite_true, ite_false, List.nil_append, List.append_nil, List.cons_append, Option.bind_some, Option.map_some, Option.elim_some, List.map_cons, List.map_nil, List.replicate_succ, List.replicate_zero, Nat.reduceSub, Nat.reduceAdd, Nat.reduceLT, Nat.sub_self, Nat.zero_lt_succ, Nat.lt_add_one, Bool.false_eq_true, Bool.not_true, Bool.not_false, abs_eq]
    rw [fr_loop W _ _ hbW]
    simp only [n_bind, n_bindS, n_go, n_some, n_none, n_nox, n_var, n_gl, n_lit, n_bin, n_neg, n_not, n_cmp, n_chn, n_chnT, n_chnF, n_and, n_or, n_ite, n_call, n_bi, n_biq, n_ix, n_sl, n_srev, n_tup, n_lst, n_lstQ, n_comp, n_compQ, n_nil, n_nilO, n_cons, n_star, n_seqI, n_rg1, n_rg2, n_zip, n_enum, n_varQ, n_callQ, n_ixQ, n_slQ, n_srevQ, n_glQ, n_tupQ, n_binQ, n_biQ, n_biqQ, n_iteQ, n_litO, n_varO, n_binO, v_add, v_sub, v_mul, v_fdiv, v_mod, v_pow, v_adds, v_addt, v_lt, v_le, v_gt, v_ge, v_eq, v_ne, v_eqt, v_net, v_eqs, v_nes, v_eql, v_trb, v_abs, v_min, v_max, v_int, v_intb, v_lent, v_isi, v_ixt, v_tup, v_lst, v_lstq, x_nil, x_seq, x_nx, x_rt, x_bk, x_ct, x_set, x_setK, x_asg, x_asgK, x_par, x_parK, x_sub, x_subK, x_aug, x_augK, x_drop, x_ite, x_whl, x_for, x_ret, x_retN, x_brk, x_cont, x_pass, x_tru, x_wh, x_lnx, x_lct, x_lbk, x_lrt, x_turn, x_putn, x_putt, x_puts0, x_puts, x_ps0, x_ps, x_forv, x_fort, x_forl0, x_forl, x_cF, x_cv, x_ct', x_cl0, x_cl, x_t0, x_t1, x_w0, x_w, x_el, v_allv, v_allt, v_srct, v_sall, v_stup, v_nilB, v_rng1, Option.join_some, List.getElem?_cons_zero, List.getElem?_cons_succ, List.length_cons, List.length_nil, List.set_cons_zero, List.set_cons_succ, if_true, if_false, ite_true, ite_false, List.nil_append, List.append_nil, List.cons_append, Option.bind_some, Option.map_some, Option.elim_some, List.map_cons, List.map_nil, List.replicate_succ, List.replicate_zero, Nat.reduceSub, Nat.reduceAdd, Nat.reduceLT, Nat.sub_self, Nat.zero_lt_succ, Nat.lt_add_one, Bool.false_eq_true, Bool.not_true, Bool.not_false, decide_eq_false hn, (s1 t ht).2, (s1 b hs).2, kk, f2, fd]
    unfold fr
    rw [hdn, hdd, Int.one_mul, Int.one_mul]
    rfl
theorem lplus_ok (hW : 2 ^ 8000 ≤ W) {p q : Rat} (hp : Sz 3000 p) (hq : Sz 3000 q) : runF fds W (n + 2) 23 [fr p, fr q] m = .ok (fr (p + q)) m := by
  rw [runF_at (f := ⟨2, 2, b23⟩) rfl]
  refine c_ret rfl ?_
  have hz : (p.den : Int) * q.den ≠ 0 := Int.mul_ne_zero (den_ne p) (den_ne q)
  have hr : runF fds W (n + 1) 22 [.int (p.num * q.den + q.num * p.den), .int (p.den * q.den)] m = .ok (fr (p + q)) m := by
    rw [lfr_ok hW hz (((hp.1.mul hq.2).add (hq.1.mul hp.2)).mono (by decide)) ((hp.2.mul hq.2).mono (by decide)), add_divInt]
  simp only [b23, fr, n_bind, n_bindS, n_go, n_some, n_none, n_nox, n_var, n_gl, n_lit, n_bin, n_neg, n_not, n_cmp, n_chn, n_chnT, n_chnF, n_and, n_or, n_ite, n_call, n_bi, n_biq, n_ix, n_sl, n_srev, n_tup, n_lst, n_lstQ, n_comp, n_compQ, n_nil, n_nilO, n_cons, n_star, n_seqI, n_rg1, n_rg2, n_zip, n_enum, n_varQ, n_callQ, n_ixQ, n_slQ, n_srevQ, n_glQ, n_tupQ, n_binQ, n_biQ, n_biqQ, n_iteQ, n_litO, n_varO, n_binO, v_add, v_sub, v_mul, v_fdiv, v_mod, v_pow, v_adds, v_addt, v_lt, v_le, v_gt, v_ge, v_eq, v_ne, v_eqt, v_net, v_eqs, v_nes, v_eql, v_trb, v_abs, v_min, v_max, v_int, v_intb, v_lent, v_isi, v_ixt, v_tup, v_lst, v_lstq, x_nil, x_seq, x_nx, x_rt, x_bk, x_ct, x_set, x_setK, x_asg, x_asgK, x_par, x_parK, x_sub, x_subK, x_aug, x_augK, x_drop, x_ite, x_whl, x_for, x_ret, x_retN, x_brk, x_cont, x_pass, x_tru, x_wh, x_lnx, x_lct, x_lbk, x_lrt, x_turn, x_putn, x_putt, x_puts0, x_puts, x_ps0, x_ps, x_forv, x_fort, x_forl0, x_forl, x_cF, x_cv, x_ct', x_cl0, x_cl, x_t0, x_t1, x_w0, x_w, x_el, v_allv, v_allt, v_srct, v_sall, v_stup, v_nilB, v_rng1, Option.join_some, List.getElem?_cons_zero, List.getElem?_cons_succ, List.length_cons, List.length_nil, List.set_cons_zero, List.set_cons_succ, if_true, if_false, ite_true, ite_false, List.nil_append, List.append_nil, List.cons_append, Option.bind_some, Option.map_some, Option.elim_some, List.map_cons, List.map_nil, List.replicate_succ, List.replicate_zero, Nat.reduceSub, Nat.reduceAdd, Nat.reduceLT, Nat.sub_self, Nat.zero_lt_succ, Nat.lt_add_one, Bool.false_eq_true, Bool.not_true, Bool.not_false, at0, at1, hp.1.mulOk hq.2 (by decide), hq.1.mulOk hp.2 (by decide), hp.2.mulOk hq.2 (by decide)]
  rw [hr]
  simp only [n_bind, n_bindS, n_go, n_some, n_none, n_nox, n_var, n_gl, n_lit, n_bin, n_neg, n_not, n_cmp, n_chn, n_chnT, n_chnF, n_and, n_or, n_ite, n_call, n_bi, n_biq, n_ix, n_sl, n_srev, n_tup, n_lst, n_lstQ, n_comp, n_compQ, n_nil, n_nilO, n_cons, n_star, n_seqI, n_rg1, n_rg2, n_zip, n_enum, n_varQ, n_callQ, n_ixQ, n_slQ, n_srevQ, n_glQ, n_tupQ, n_binQ, n_biQ, n_biqQ, n_iteQ, n_litO, n_varO, n_binO, v_add, v_sub, v_mul, v_fdiv, v_mod, v_pow, v_adds, v_addt, v_lt, v_le, v_gt, v_ge, v_eq, v_ne, v_eqt, v_net, v_eqs, v_nes, v_eql, v_trb, v_abs, v_min, v_max, v_int, v_intb, v_lent, v_isi, v_ixt, v_tup, v_lst, v_lstq, x_nil, x_seq, x_nx, x_rt, x_bk, x_ct, x_set, x_setK, x_asg, x_asgK, x_par, x_parK, x_sub, x_subK, x_aug, x_augK, x_drop, x_ite, x_whl, x_for, x_ret, x_retN, x_brk, x_cont, x_pass, x_tru, x_wh, x_lnx, x_lct, x_lbk, x_lrt, x_turn, x_putn, x_putt, x_puts0, x_puts, x_ps0, x_ps, x_forv, x_fort, x_forl0, x_forl, x_cF, x_cv, x_ct', x_cl0, x_cl, x_t0, x_t1, x_w0, x_w, x_el, v_allv, v_allt, v_srct, v_sall, v_stup, v_nilB, v_rng1, Option.join_some, List.getElem?_cons_zero, List.getElem?_cons_succ, List.length_cons, List.length_nil, List.set_cons_zero, List.set_cons_succ, if_true, if_false, ite_true, ite_false, List.nil_append, List.append_nil, List.cons_append, Option.bind_some, Option.map_some, Option.elim_some, List.map_cons, List.map_nil, List.replicate_succ, List.replicate_zero, Nat.reduceSub, Nat.reduceAdd, Nat.reduceLT, Nat.sub_self, Nat.zero_lt_succ, Nat.lt_add_one, Bool.false_eq_true, Bool.not_true, Bool.not_false, fr]
theorem lminus_ok (hW : 2 ^ 8000 ≤ W) {p q : Rat} (hp : Sz 3000 p) (hq : Sz 3000 q) : runF fds W (n + 2) 25 [fr p, fr q] m = .ok (fr (p - q)) m := by
  rw [runF_at (f := ⟨2, 2, b25⟩) rfl]
  refine c_ret rfl ?_
  have hz : (p.den : Int) * q.den ≠ 0 := Int.mul_ne_zero (den_ne p) (den_ne q)
  have e : p - q = Rat.divInt (p.num * q.den - q.num * p.den) (p.den * q.den) := by
    rw [Rat.sub_eq_add_neg, add_divInt, Rat.neg_num, Rat.neg_den]
    congr 1
    rw [Int.neg_mul]; omega
  have hr : runF fds W (n + 1) 22 [.int (p.num * q.den - q.num * p.den), .int (p.den * q.den)] m = .ok (fr (p - q)) m := by
    rw [lfr_ok hW hz (((hp.1.mul hq.2).sub (hq.1.mul hp.2)).mono (by decide)) ((hp.2.mul hq.2).mono (by decide)), e]
  simp only [b25, fr, n_bind, n_bindS, n_go, n_some, n_none, n_nox, n_var, n_gl, n_lit, n_bin, n_neg, n_not, n_cmp, n_chn, n_chnT, n_chnF, n_and, n_or, n_ite, n_call, n_bi, n_biq, n_ix, n_sl, n_srev, n_tup, n_lst, n_lstQ, n_comp, n_compQ, n_nil, n_nilO, n_cons, n_star, n_seqI, n_rg1, n_rg2, n_zip, n_enum, n_varQ, n_callQ, n_ixQ, n_slQ, n_srevQ, n_glQ, n_tupQ, n_binQ, n_biQ, n_biqQ, n_iteQ, n_litO, n_varO, n_binO, v_add, v_sub, v_mul, v_fdiv, v_mod, v_pow, v_adds, v_addt, v_lt, v_le, v_gt, v_ge, v_eq, v_ne, v_eqt, v_net, v_eqs, v_nes, v_eql, v_trb, v_abs, v_min, v_max, v_int, v_intb, v_lent, v_isi, v_ixt, v_tup, v_lst, v_lstq, x_nil, x_seq, x_nx, x_rt, x_bk, x_ct, x_set, x_setK, x_asg, x_asgK, x_par, x_parK, x_sub, x_subK, x_aug, x_augK, x_drop, x_ite, x_whl, x_for, x_ret, x_retN, x_brk, x_cont, x_pass, x_tru, x_wh, x_lnx, x_lct, x_lbk, x_lrt, x_turn, x_putn, x_putt, x_puts0, x_puts, x_ps0, x_ps, x_forv, x_fort, x_forl0, x_forl, x_cF, x_cv, x_ct', x_cl0, x_cl, x_t0, x_t1, x_w0, x_w, x_el, v_allv, v_allt, v_srct, v_sall, v_stup, v_nilB, v_rng1, Option.join_some, List.getElem?_cons_zero, List.getElem?_cons_succ, List.length_cons, List.length_nil, List.set_cons_zero, List.set_cons_succ, if_true, if_false, ite_true, ite_false, List.nil_append, List.append_nil, List.cons_append, Option.bind_some, Option.map_some, Option.elim_some, List.map_cons, List.map_nil, List.replicate_succ, List.replicate_zero, Nat.reduceSub, Nat.reduceAdd, Nat.reduceLT, Nat.sub_self, Nat.zero_lt_succ, Nat.lt_add_one, Bool.false_eq_true, Bool.not_true, Bool.not_false, at0, at1, hp.1.mulOk hq.2 (by decide), hq.1.mulOk hp.2 (by decide), hp.2.mulOk hq.2 (by decide)]
  rw [hr]
  simp only [n_bind, n_bindS, n_go, n_some, n_none, n_nox, n_var, n_gl, n_lit, n_bin, n_neg, n_not, n_cmp, n_chn, n_chnT, n_chnF, n_and, n_or, n_ite, n_call, n_bi, n_biq, n_ix, n_sl, n_srev, n_tup, n_lst, n_lstQ, n_comp, n_compQ, n_nil, n_nilO, n_cons, n_star, n_seqI, n_rg1, n_rg2, n_zip, n_enum, n_varQ, n_callQ, n_ixQ, n_slQ, n_srevQ, n_glQ, n_tupQ, n_binQ, n_biQ, n_biqQ, n_iteQ, n_litO, n_varO, n_binO, v_add, v_sub, v_mul, v_fdiv, v_mod, v_pow, v_adds, v_addt, v_lt, v_le, v_gt, v_ge, v_eq, v_ne, v_eqt, v_net, v_eqs, v_nes, v_eql, v_trb, v_abs, v_min, v_max, v_int, v_intb, v_lent, v_isi, v_ixt, v_tup, v_lst, v_lstq, x_nil, x_seq, x_nx, x_rt, x_bk, x_ct, x_set, x_setK, x_asg, x_asgK, x_par, x_parK, x_sub, x_subK, x_aug, x_augK, x_drop, x_ite, x_whl, x_for, x_ret, x_retN, x_brk, x_cont, x_pass, x_tru, x_wh, x_lnx, x_lct, x_lbk, x_lrt, x_turn, x_putn, x_putt, x_puts0, x_puts, x_ps0, x_ps, x_forv, x_fort, x_forl0, x_forl, x_cF, x_cv, x_ct', x_cl0, x_cl, x_t0, x_t1, x_w0, x_w, x_el, v_allv, v_allt, v_srct, v_sall, v_stup, v_nilB, v_rng1, Option.join_some, List.getElem?_cons_zero, List.getElem?_cons_succ, List.length_cons, List.length_nil, List.set_cons_zero, List.set_cons_succ, if_true, if_false, ite_true, ite_false, List.nil_append, List.append_nil, List.cons_append, Option.bind_some, Option.map_some, Option.elim_some, List.map_cons, List.map_nil, List.replicate_succ, List.replicate_zero, Nat.reduceSub, Nat.reduceAdd, Nat.reduceLT, Nat.sub_self, Nat.zero_lt_succ, Nat.lt_add_one, Bool.false_eq_true, Bool.not_true, Bool.not_false, fr]
theorem ltimes_ok (hW : 2 ^ 8000 ≤ W) {p q : Rat} (hp : Sz 3000 p) (hq : Sz 3000 q) : runF fds W (n + 2) 24 [fr p, fr q] m = .ok (fr (p * q)) m := by
  rw [runF_at (f := ⟨2, 2, b24⟩) rfl]
  refine c_ret rfl ?_
  have hz : (p.den : Int) * q.den ≠ 0 := Int.mul_ne_zero (den_ne p) (den_ne q)
  have hr : runF fds W (n + 1) 22 [.int (p.num * q.num), .int (p.den * q.den)] m = .ok (fr (p * q)) m := by
    rw [lfr_ok hW hz ((hp.1.mul hq.1).mono (by decide)) ((hp.2.mul hq.2).mono (by decide)), mul_divInt]
  simp only [b24, fr, n_bind, n_bindS, n_go, n_some, n_none, n_nox, n_var, n_gl, n_lit, n_bin, n_neg, n_not, n_cmp, n_chn, n_chnT, n_chnF, n_and, n_or, n_ite, n_call, n_bi, n_biq, n_ix, n_sl, n_srev, n_tup, n_lst, n_lstQ, n_comp, n_compQ, n_nil, n_nilO, n_cons, n_star, n_seqI, n_rg1, n_rg2, n_zip, n_enum, n_varQ, n_callQ, n_ixQ, n_slQ, n_srevQ, n_glQ, n_tupQ, n_binQ, n_biQ, n_biqQ, n_iteQ, n_litO, n_varO, n_binO, v_add, v_sub, v_mul, v_fdiv, v_mod, v_pow, v_adds, v_addt, v_lt, v_le, v_gt, v_ge, v_eq, v_ne, v_eqt, v_net, v_eqs, v_nes, v_eql, v_trb, v_abs, v_min, v_max, v_int, v_intb, v_lent, v_isi, v_ixt, v_tup, v_lst, v_lstq, x_nil, x_seq, x_nx, x_rt, x_bk, x_ct, x_set, x_setK, x_asg, x_asgK, x_par, x_parK, x_sub, x_subK, x_aug, x_augK, x_drop, x_ite, x_whl, x_for, x_ret, x_retN, x_brk, x_cont, x_pass, x_tru, x_wh, x_lnx, x_lct, x_lbk, x_lrt, x_turn, x_putn, x_putt, x_puts0, x_puts, x_ps0, x_ps, x_forv, x_fort, x_forl0, x_forl, x_cF, x_cv, x_ct', x_cl0, x_cl, x_t0, x_t1, x_w0, x_w, x_el, v_allv, v_allt, v_srct, v_sall, v_stup, v_nilB, v_rng1, Option.join_some, List.getElem?_cons_zero, List.getElem?_cons_succ, List.length_cons, List.length_nil, List.set_cons_zero, List.set_cons_succ, if_true, if_false, ite_true, ite_false, List.nil_append, List.append_nil, List.cons_append, Option.bind_some, Option.map_some, Option.elim_some, List.map_cons, List.map_nil, List.replicate_succ, List.replicate_zero, Nat.reduceSub, Nat.reduceAdd, Nat.reduceLT, Nat.sub_self, Nat.zero_lt_succ, Nat.lt_add_one, Bool.false_eq_true, Bool.not_true, Bool.not_false, at0, at1, hp.1.mulOk hq.1 (by decide), hp.2.mulOk hq.2 (by decide)]
  rw [hr]
  simp only [n_bind, n_bindS, n_go, n_some, n_none, n_nox, n_var, n_gl, n_lit, n_bin, n_neg, n_not, n_cmp, n_chn, n_chnT, n_chnF, n_and, n_or, n_ite, n_call, n_bi, n_biq, n_ix, n_sl, n_srev, n_tup, n_lst, n_lstQ, n_comp, n_compQ, n_nil, n_nilO, n_cons, n_star, n_seqI, n_rg1, n_rg2, n_zip, n_enum, n_varQ, n_callQ, n_ixQ, n_slQ, n_srevQ, n_glQ, n_tupQ, n_binQ, n_biQ, n_biqQ, n_iteQ, n_litO, n_varO, n_binO, v_add, v_sub, v_mul, v_fdiv, v_mod, v_pow, v_adds, v_addt, v_lt, v_le, v_gt, v_ge, v_eq, v_ne, v_eqt, v_net, v_eqs, v_nes, v_eql, v_trb, v_abs, v_min, v_max, v_int, v_intb, v_lent, v_isi, v_ixt, v_tup, v_lst, v_lstq, x_nil, x_seq, x_nx, x_rt, x_bk, x_ct, x_set, x_setK, x_asg, x_asgK, x_par, x_parK, x_sub, x_subK, x_aug, x_augK, x_drop, x_ite, x_whl, x_for, x_ret, x_retN, x_brk, x_cont, x_pass, x_tru, x_wh, x_lnx, x_lct, x_lbk, x_lrt, x_turn, x_putn, x_putt, x_puts0, x_puts, x_ps0, x_ps, x_forv, x_fort, x_forl0, x_forl, x_cF, x_cv, x_ct', x_cl0, x_cl, x_t0, x_t1, x_w0, x_w, x_el, v_allv, v_allt, v_srct, v_sall, v_stup, v_nilB, v_rng1, Option.join_some, List.getElem?_cons_zero, List.getElem?_cons_succ, List.length_cons, List.length_nil, List.set_cons_zero, List.set_cons_succ, if_true, if_false, ite_true, ite_false, List.nil_append, List.append_nil, List.cons_append, Option.bind_some, Option.map_some, Option.elim_some, List.map_cons, List.map_nil, List.replicate_succ, List.replicate_zero, Nat.reduceSub, Nat.reduceAdd, Nat.reduceLT, Nat.sub_self, Nat.zero_lt_succ, Nat.lt_add_one, Bool.false_eq_true, Bool.not_true, Bool.not_false, fr]
/-- sums -/
def sumR (acc : Rat) (qs : List Rat) : Rat := qs.foldl (· + ·) acc
theorem sum_loop (hW : 2 ^ 8000 ≤ W) {x : Option D} : ∀ (qs : List Rat) (k : Nat) (acc : Rat) (y : Option D), Sz k acc → (∀ q ∈ qs, Sz 300 q) → k + 301 * qs.length ≤ 3000 → ∃ z,
    forL (turnF (.nm 2) (ex (runF fds W (n + 3)) W (.seq (.set 1 (.call "added" 7 (.cons (.var 1) (.cons (.var 2) .nil)) [])) .nil))) (qs.map fr) [x, some (fr acc), y] m = .ok (.nx [x, some (fr (sumR acc qs)), z]) m ∧ Sz (k + 301 * qs.length) (sumR acc qs)
  | [], k, acc, y, h, _, _ => ⟨y, rfl, h⟩
  | q :: qs, k, acc, y, h, hq, hl => by
    simp only [List.length_cons] at hl
    have hq1 := hq q List.mem_cons_self
    obtain ⟨z, e, s⟩ := sum_loop hW qs (k + 301) (acc + q) (some (fr q)) ((h.add hq1).mono (by omega)) (fun r hr => hq r (List.mem_cons_of_mem _ hr)) (by omega)
    refine ⟨z, ?_, ?_⟩
    · rw [List.map_cons, x_forl]
      simp only [n_bind, n_bindS, n_go, n_some, n_none, n_nox, n_var, n_gl, n_lit, n_bin, n_neg, n_not, n_cmp, n_chn, n_chnT, n_chnF, n_and, n_or, n_ite, n_call, n_bi, n_biq, n_ix, n_sl, n_srev, n_tup, n_lst, n_lstQ, n_comp, n_compQ, n_nil, n_nilO, n_cons, n_star, n_seqI, n_rg1, n_rg2, n_zip, n_enum, n_varQ, n_callQ, n_ixQ, n_slQ, n_srevQ, n_glQ, n_tupQ, n_binQ, n_biQ, n_biqQ, n_iteQ, n_litO, n_varO, n_binO, v_add, v_sub, v_mul, v_fdiv, v_mod, v_pow, v_adds, v_addt, v_lt, v_le, v_gt, v_ge, v_eq, v_ne, v_eqt, v_net, v_eqs, v_nes, v_eql, v_trb, v_abs, v_min, v_max, v_int, v_intb, v_lent, v_isi, v_ixt, v_tup, v_lst, v_lstq, x_nil, x_seq, x_nx, x_rt, x_bk, x_ct, x_set, x_setK, x_asg, x_asgK, x_par, x_parK, x_sub, x_subK, x_aug, x_augK, x_drop, x_ite, x_whl, x_for, x_ret, x_retN, x_brk, x_cont, x_pass, x_tru, x_wh, x_lnx, x_lct, x_lbk, x_lrt, x_turn, x_putn, x_putt, x_puts0, x_puts, x_ps0, x_ps, x_forv, x_fort, x_forl0, x_forl, x_cF, x_cv, x_ct', x_cl0, x_cl, x_t0, x_t1, x_w0, x_w, x_el, v_allv, v_allt, v_srct, v_sall, v_stup, v_nilB, v_rng1, Option.join_some, List.getElem?_cons_zero, List.getElem?_cons_succ, List.length_cons, List.length_nil, List.set_cons_zero, List.set_cons_succ, if_true, if_false, ite_true, ite_false, List.nil_append, List.append_nil, List.cons_append, Option.bind_some, Option.map_some, Option.elim_some, List.map_cons, List.map_nil, List.replicate_succ, List.replicate_zero, Nat.reduceSub, Nat.reduceAdd, Nat.reduceLT, Nat.sub_self, Nat.zero_lt_succ, Nat.lt_add_one, Bool.false_eq_true, Bool.not_true, Bool.not_false, add_ok hW (h.mono (show k ≤ 3000 by omega)) (hq1.mono (show 300 ≤ 3000 by decide))]
      exact e
    · rw [List.length_cons]
      exact s.mono (by omega)
theorem sumof_ok (hW : 2 ^ 8000 ≤ W) {qs : List Rat} (hq : ∀ q ∈ qs, Sz 300 q) (hl : qs.length ≤ 9) : runF fds W (n + 4) 11 [.tup (qs.map fr)] m = .ok (fr (sumR 0 qs)) m := by
  rw [runF_at (f := ⟨1, 3, b11⟩) rfl]
  refine c_ret rfl ?_
  have e0 : (D.tup [.int 0, .int 1]) = fr 0 := rfl
  obtain ⟨z, e, _⟩ := sum_loop (n := n) (m := m) hW (x := some (.tup (qs.map fr))) qs 1 0 none ⟨by decide, by decide⟩ hq (by omega)
  simp only [b11, n_bind, n_bindS, n_go, n_some, n_none, n_nox, n_var, n_gl, n_lit, n_bin, n_neg, n_not, n_cmp, n_chn, n_chnT, n_chnF, n_and, n_or, n_ite, n_call, n_bi, n_biq, n_ix, n_sl, n_srev, n_tup, n_lst, n_lstQ, n_comp, n_compQ, n_nil, n_nilO, n_cons, n_star, n_seqI, n_rg1, n_rg2, n_zip, n_enum, n_varQ, n_callQ, n_ixQ, n_slQ, n_srevQ, n_glQ, n_tupQ, n_binQ, n_biQ, n_biqQ, n_iteQ, n_litO, n_varO, n_binO, v_add, v_sub, v_mul, v_fdiv, v_mod, v_pow, v_adds, v_addt, v_lt, v_le, v_gt, v_ge, v_eq, v_ne, v_eqt, v_net, v_eqs, v_nes, v_eql, v_trb, v_abs, v_min, v_max, v_int, v_intb, v_lent, v_isi, v_ixt, v_tup, v_lst, v_lstq, x_nil, x_seq, x_nx, x_rt, x_bk, x_ct, x_set, x_setK, x_asg, x_asgK, x_par, x_parK, x_sub, x_subK, x_aug, x_augK, x_drop, x_ite, x_whl, x_for, x_ret, x_retN, x_brk, x_cont, x_pass, x_tru, x_wh, x_lnx, x_lct, x_lbk, x_lrt, x_turn, x_putn, x_putt, x_puts0, x_puts, x_ps0, x_ps, x_forv, x_fort, x_forl0, x_forl, x_cF, x_cv, x_ct', x_cl0, x_cl, x_t0, x_t1, x_w0, x_w, x_el, v_allv, v_allt, v_srct, v_sall, v_stup, v_nilB, v_rng1, Option.join_some, List.getElem?_cons_zero, List.getElem?_cons_succ, List.length_cons, List.length_nil, List.set_cons_zero, List.set_cons_succ, if_true, if_false, ite_true, ite_false, List.nil_append, List.append_nil, List.cons_append, Option.bind_some, Option.map_some, Option.elim_some, List.map_cons, List.map_nil, List.replicate_succ, List.replicate_zero, Nat.reduceSub, Nat.reduceAdd, Nat.reduceLT, Nat.sub_self, Nat.zero_lt_succ, Nat.lt_add_one, Bool.false_eq_true, Bool.not_true, Bool.not_false, e0, e]
theorem all_num (hW : 2 ^ 8000 ≤ W) {x : Option D} : ∀ (qs : List Rat) (acc : List D), (∀ q ∈ qs, Sz 300 q) →
    compL (turnC [("one", 1)] (.nm 1) none (ev (runF fds W (n + 2)) W (.call "is_number" 2 (.cons (.var 1) .nil) [])).v [x, none]) (qs.map fr) acc m = .ok (acc ++ List.replicate qs.length (.bl true)) m
  | [], acc, _ => by rw [List.map_nil, x_cl0]; simp
  | q :: qs, acc, h => by
    rw [List.map_cons, x_cl]
    simp only [n_bind, n_bindS, n_go, n_some, n_none, n_nox, n_var, n_gl, n_lit, n_bin, n_neg, n_not, n_cmp, n_chn, n_chnT, n_chnF, n_and, n_or, n_ite, n_call, n_bi, n_biq, n_ix, n_sl, n_srev, n_tup, n_lst, n_lstQ, n_comp, n_compQ, n_nil, n_nilO, n_cons, n_star, n_seqI, n_rg1, n_rg2, n_zip, n_enum, n_varQ, n_callQ, n_ixQ, n_slQ, n_srevQ, n_glQ, n_tupQ, n_binQ, n_biQ, n_biqQ, n_iteQ, n_litO, n_varO, n_binO, v_add, v_sub, v_mul, v_fdiv, v_mod, v_pow, v_adds, v_addt, v_lt, v_le, v_gt, v_ge, v_eq, v_ne, v_eqt, v_net, v_eqs, v_nes, v_eql, v_trb, v_abs, v_min, v_max, v_int, v_intb, v_lent, v_isi, v_ixt, v_tup, v_lst, v_lstq, x_nil, x_seq, x_nx, x_rt, x_bk, x_ct, x_set, x_setK, x_asg, x_asgK, x_par, x_parK, x_sub, x_subK, x_aug, x_augK, x_drop, x_ite, x_whl, x_for, x_ret, x_retN, x_brk, x_cont, x_pass, x_tru, x_wh, x_lnx, x_lct, x_lbk, x_lrt, x_turn, x_putn, x_putt, x_puts0, x_puts, x_ps0, x_ps, x_forv, x_fort, x_forl0, x_forl, x_cF, x_cv, x_ct', x_cl0, x_cl, x_t0, x_t1, x_w0, x_w, x_el, v_allv, v_allt, v_srct, v_sall, v_stup, v_nilB, v_rng1, Option.join_some, List.getElem?_cons_zero, List.getElem?_cons_succ, List.length_cons, List.length_nil, List.set_cons_zero, List.set_cons_succ, if_true, if_false, ite_true, ite_false, List.nil_append, List.append_nil, List.cons_append, Option.bind_some, Option.map_some, Option.elim_some, List.map_cons, List.map_nil, List.replicate_succ, List.replicate_zero, Nat.reduceSub, Nat.reduceAdd, Nat.reduceLT, Nat.sub_self, Nat.zero_lt_succ, Nat.lt_add_one, Bool.false_eq_true, Bool.not_true, Bool.not_false, isnum_ok hW ((h q List.mem_cons_self).mono (show 300 ≤ 8000 by decide))]
    rw [all_num hW qs _ fun r hr => h r (List.mem_cons_of_mem _ hr)]
    simp [List.replicate_succ]
theorem allB (k : Nat) : asBls (List.replicate k (.bl true)) = some (List.replicate k true) := by
  induction k with
  | zero => rfl
  | succ k ih =>
    unfold asBls at ih ⊢
    rw [List.replicate_succ, List.mapM_cons, ih]
    rfl
theorem total_ok (hW : 2 ^ 8000 ≤ W) {qs : List Rat} (hq : ∀ q ∈ qs, Sz 300 q) (hl : qs.length ≤ 9) : runF fds W (n + 5) 17 [.tup (qs.map fr)] m = .ok (fr (sumR 0 qs)) m := by
  rw [runF_at (f := ⟨1, 2, b17⟩) rfl]
  refine c_ret rfl ?_
  have hf : fits (List.replicate qs.length (D.bl true)).length = true := fits_ok (by simp; omega)
  have ha : (List.replicate qs.length true).all id = true := by simp
  have hc := all_num (n := n + 2) (m := m) hW (x := some (.tup (qs.map fr))) qs [] hq
  rw [List.nil_append] at hc
  simp only [b17, n_bind, n_bindS, n_go, n_some, n_none, n_nox, n_var, n_gl, n_lit, n_bin, n_neg, n_not, n_cmp, n_chn, n_chnT, n_chnF, n_and, n_or, n_ite, n_call, n_bi, n_biq, n_ix, n_sl, n_srev, n_tup, n_lst, n_lstQ, n_comp, n_compQ, n_nil, n_nilO, n_cons, n_star, n_seqI, n_rg1, n_rg2, n_zip, n_enum, n_varQ, n_callQ, n_ixQ, n_slQ, n_srevQ, n_glQ, n_tupQ, n_binQ, n_biQ, n_biqQ, n_iteQ, n_litO, n_varO, n_binO, v_add, v_sub, v_mul, v_fdiv, v_mod, v_pow, v_adds, v_addt, v_lt, v_le, v_gt, v_ge, v_eq, v_ne, v_eqt, v_net, v_eqs, v_nes, v_eql, v_trb, v_abs, v_min, v_max, v_int, v_intb, v_lent, v_isi, v_ixt, v_tup, v_lst, v_lstq, x_nil, x_seq, x_nx, x_rt, x_bk, x_ct, x_set, x_setK, x_asg, x_asgK, x_par, x_parK, x_sub, x_subK, x_aug, x_augK, x_drop, x_ite, x_whl, x_for, x_ret, x_retN, x_brk, x_cont, x_pass, x_tru, x_wh, x_lnx, x_lct, x_lbk, x_lrt, x_turn, x_putn, x_putt, x_puts0, x_puts, x_ps0, x_ps, x_forv, x_fort, x_forl0, x_forl, x_cF, x_cv, x_ct', x_cl0, x_cl, x_t0, x_t1, x_w0, x_w, x_el, v_allv, v_allt, v_srct, v_sall, v_stup, v_nilB, v_rng1, Option.join_some, List.getElem?_cons_zero, List.getElem?_cons_succ, List.length_cons, List.length_nil, List.set_cons_zero, List.set_cons_succ, if_true, if_false, ite_true, ite_false, List.nil_append, List.append_nil, List.cons_append, Option.bind_some, Option.map_some, Option.elim_some, List.map_cons, List.map_nil, List.replicate_succ, List.replicate_zero, Nat.reduceSub, Nat.reduceAdd, Nat.reduceLT, Nat.sub_self, Nat.zero_lt_succ, Nat.lt_add_one, Bool.false_eq_true, Bool.not_true, Bool.not_false, isTup, hc, hf, allB, ha, sumof_ok hW hq hl]
/-- powers -/
def powR (q acc : Rat) : Nat → Rat
  | 0 => acc
  | k + 1 => powR q (acc * q) k
theorem pow_loop (hW : 2 ^ 8000 ≤ W) {y : Option D} {q : Rat} {s : Nat} (hq : Sz s q) : ∀ (ds : List D) (k : Nat) (acc : Rat) (w : Option D), Sz k acc → k + s * ds.length ≤ 3000 → s ≤ 3000 → ∃ z,
    forL (turnF (.nm 3) (ex (runF fds W (n + 3)) W (.seq (.set 2 (.call "multiplied" 8 (.cons (.var 2) (.cons (.var 0) .nil)) [])) .nil))) ds [some (fr q), y, some (fr acc), w] m = .ok (.nx [some (fr q), y, some (fr (powR q acc ds.length)), z]) m
  | [], k, acc, w, _, _, _ => ⟨w, rfl⟩
  | d :: ds, k, acc, w, h, hl, h3 => by
    rw [List.length_cons, Nat.mul_add] at hl
    obtain ⟨z, e⟩ := pow_loop hW hq ds (k + s) (acc * q) (some d) (h.mul hq) (by omega) h3
    refine ⟨z, ?_⟩
    rw [x_forl]
    simp only [n_bind, n_bindS, n_go, n_some, n_none, n_nox, n_var, n_gl, n_lit, n_bin, n_neg, n_not, n_cmp, n_chn, n_chnT, n_chnF, n_and, n_or, n_ite, n_call, n_bi, n_biq, n_ix, n_sl, n_srev, n_tup, n_lst, n_lstQ, n_comp, n_compQ, n_nil, n_nilO, n_cons, n_star, n_seqI, n_rg1, n_rg2, n_zip, n_enum, n_varQ, n_callQ, n_ixQ, n_slQ, n_srevQ, n_glQ, n_tupQ, n_binQ, n_biQ, n_biqQ, n_iteQ, n_litO, n_varO, n_binO, v_add, v_sub, v_mul, v_fdiv, v_mod, v_pow, v_adds, v_addt, v_lt, v_le, v_gt, v_ge, v_eq, v_ne, v_eqt, v_net, v_eqs, v_nes, v_eql, v_trb, v_abs, v_min, v_max, v_int, v_intb, v_lent, v_isi, v_ixt, v_tup, v_lst, v_lstq, x_nil, x_seq, x_nx, x_rt, x_bk, x_ct, x_set, x_setK, x_asg, x_asgK, x_par, x_parK, x_sub, x_subK, x_aug, x_augK, x_drop, x_ite, x_whl, x_for, x_ret, x_retN, x_brk, x_cont, x_pass, x_tru, x_wh, x_lnx, x_lct, x_lbk, x_lrt, x_turn, x_putn, x_putt, x_puts0, x_puts, x_ps0, x_ps, x_forv, x_fort, x_forl0, x_forl, x_cF, x_cv, x_ct', x_cl0, x_cl, x_t0, x_t1, x_w0, x_w, x_el, v_allv, v_allt, v_srct, v_sall, v_stup, v_nilB, v_rng1, Option.join_some, List.getElem?_cons_zero, List.getElem?_cons_succ, List.length_cons, List.length_nil, List.set_cons_zero, List.set_cons_succ, if_true, if_false, ite_true, ite_false, List.nil_append, List.append_nil, List.cons_append, Option.bind_some, Option.map_some, Option.elim_some, List.map_cons, List.map_nil, List.replicate_succ, List.replicate_zero, Nat.reduceSub, Nat.reduceAdd, Nat.reduceLT, Nat.sub_self, Nat.zero_lt_succ, Nat.lt_add_one, Bool.false_eq_true, Bool.not_true, Bool.not_false, mul_ok hW (h.mono (show k ≤ 3000 by omega)) (hq.mono h3)]
    exact e
theorem reqc_ok {i : Int} (h0 : 0 ≤ i) (h1 : i ≤ 60) : runF fds W (n + 2) 6 [.int i, .int 0, .int 60] m = .ok .non m := by
  rw [runF_at (f := ⟨3, 3, b6⟩) rfl, c_call rfl]
  simp only [b6, n_bind, n_bindS, n_go, n_some, n_none, n_nox, n_var, n_gl, n_lit, n_bin, n_neg, n_not, n_cmp, n_chn, n_chnT, n_chnF, n_and, n_or, n_ite, n_call, n_bi, n_biq, n_ix, n_sl, n_srev, n_tup, n_lst, n_lstQ, n_comp, n_compQ, n_nil, n_nilO, n_cons, n_star, n_seqI, n_rg1, n_rg2, n_zip, n_enum, n_varQ, n_callQ, n_ixQ, n_slQ, n_srevQ, n_glQ, n_tupQ, n_binQ, n_biQ, n_biqQ, n_iteQ, n_litO, n_varO, n_binO, v_add, v_sub, v_mul, v_fdiv, v_mod, v_pow, v_adds, v_addt, v_lt, v_le, v_gt, v_ge, v_eq, v_ne, v_eqt, v_net, v_eqs, v_nes, v_eql, v_trb, v_abs, v_min, v_max, v_int, v_intb, v_lent, v_isi, v_ixt, v_tup, v_lst, v_lstq, x_nil, x_seq, x_nx, x_rt, x_bk, x_ct, x_set, x_setK, x_asg, x_asgK, x_par, x_parK, x_sub, x_subK, x_aug, x_augK, x_drop, x_ite, x_whl, x_for, x_ret, x_retN, x_brk, x_cont, x_pass, x_tru, x_wh, x_lnx, x_lct, x_lbk, x_lrt, x_turn, x_putn, x_putt, x_puts0, x_puts, x_ps0, x_ps, x_forv, x_fort, x_forl0, x_forl, x_cF, x_cv, x_ct', x_cl0, x_cl, x_t0, x_t1, x_w0, x_w, x_el, v_allv, v_allt, v_srct, v_sall, v_stup, v_nilB, v_rng1, Option.join_some, List.getElem?_cons_zero, List.getElem?_cons_succ, List.length_cons, List.length_nil, List.set_cons_zero, List.set_cons_succ, if_true, if_false, ite_true, ite_false, List.nil_append, List.append_nil, List.cons_append, Option.bind_some, Option.map_some, Option.elim_some, List.map_cons, List.map_nil, List.replicate_succ, List.replicate_zero, Nat.reduceSub, Nat.reduceAdd, Nat.reduceLT, Nat.sub_self, Nat.zero_lt_succ, Nat.lt_add_one, Bool.false_eq_true, Bool.not_true, Bool.not_false, isint_ok, decide_eq_true h0, decide_eq_true h1]
  rw [gc_self]
theorem rOk_small {i : Int} (h0 : 0 ≤ i) (h1 : i ≤ 1000) : rOk i = true := by
  unfold rOk
  rw [Bool.and_eq_true]
  exact ⟨decide_eq_true (by omega), decide_eq_true (by omega)⟩
theorem power_ok (hW : 2 ^ 8000 ≤ W) {q : Rat} {s : Nat} (hq : Sz s q) {i : Int} (h0 : 0 ≤ i) (h1 : i ≤ 60) (hs : 1 + s * i.toNat ≤ 3000) (h3 : s ≤ 3000) : runF fds W (n + 4) 18 [fr q, .int i] m = .ok (fr (powR q 1 i.toNat)) m := by
  rw [runF_at (f := ⟨2, 4, b18⟩) rfl]
  refine c_ret rfl ?_
  have e1 : (D.tup [.int 1, .int 1]) = fr 1 := rfl
  have hlen : (rangeD 0 i.toNat).length = i.toNat := by unfold rangeD; simp
  obtain ⟨z, e⟩ := pow_loop (n := n) (m := m) hW hq (y := some (.int i)) (rangeD 0 i.toNat) 1 1 none ⟨by decide, by decide⟩ (by rw [hlen]; exact hs) h3
  rw [hlen] at e
  simp only [b18, n_bind, n_bindS, n_go, n_some, n_none, n_nox, n_var, n_gl, n_lit, n_bin, n_neg, n_not, n_cmp, n_chn, n_chnT, n_chnF, n_and, n_or, n_ite, n_call, n_bi, n_biq, n_ix, n_sl, n_srev, n_tup, n_lst, n_lstQ, n_comp, n_compQ, n_nil, n_nilO, n_cons, n_star, n_seqI, n_rg1, n_rg2, n_zip, n_enum, n_varQ, n_callQ, n_ixQ, n_slQ, n_srevQ, n_glQ, n_tupQ, n_binQ, n_biQ, n_biqQ, n_iteQ, n_litO, n_varO, n_binO, v_add, v_sub, v_mul, v_fdiv, v_mod, v_pow, v_adds, v_addt, v_lt, v_le, v_gt, v_ge, v_eq, v_ne, v_eqt, v_net, v_eqs, v_nes, v_eql, v_trb, v_abs, v_min, v_max, v_int, v_intb, v_lent, v_isi, v_ixt, v_tup, v_lst, v_lstq, x_nil, x_seq, x_nx, x_rt, x_bk, x_ct, x_set, x_setK, x_asg, x_asgK, x_par, x_parK, x_sub, x_subK, x_aug, x_augK, x_drop, x_ite, x_whl, x_for, x_ret, x_retN, x_brk, x_cont, x_pass, x_tru, x_wh, x_lnx, x_lct, x_lbk, x_lrt, x_turn, x_putn, x_putt, x_puts0, x_puts, x_ps0, x_ps, x_forv, x_fort, x_forl0, x_forl, x_cF, x_cv, x_ct', x_cl0, x_cl, x_t0, x_t1, x_w0, x_w, x_el, v_allv, v_allt, v_srct, v_sall, v_stup, v_nilB, v_rng1, Option.join_some, List.getElem?_cons_zero, List.getElem?_cons_succ, List.length_cons, List.length_nil, List.set_cons_zero, List.set_cons_succ, if_true, if_false, ite_true, ite_false, List.nil_append, List.append_nil, List.cons_append, Option.bind_some, Option.map_some, Option.elim_some, List.map_cons, List.map_nil, List.replicate_succ, List.replicate_zero, Nat.reduceSub, Nat.reduceAdd, Nat.reduceLT, Nat.sub_self, Nat.zero_lt_succ, Nat.lt_add_one, Bool.false_eq_true, Bool.not_true, Bool.not_false, req_ok hW (hq.mono (show s ≤ 8000 by omega)), reqc_ok h0 h1, e1, rOk_small h0 (show i ≤ 1000 by omega), e]
theorem number_ok (hW : 2 ^ 8000 ≤ W) {t b : Int} (hb : b ≠ 0) (ht : t.natAbs < 10 ^ 40) (hb2 : b.natAbs < 10 ^ 40) : runF fds W (n + 3) 4 [.int t, .int b] m = .ok (fr (Rat.divInt t b)) m := by
  rw [runF_at (f := ⟨2, 2, b4⟩) rfl]
  refine c_ret rfl ?_
  have k1 : ¬ ((10000000000000000000000000000000000000000 : Int) ≤ (t.natAbs : Int)) := by omega
  have k2 : ¬ ((10000000000000000000000000000000000000000 : Int) ≤ (b.natAbs : Int)) := by omega
  have hL : Lt 8000 b := Lt.mono (a := 140) (Nat.lt_trans hb2 (by decide)) (by decide)
  simp only [b4, n_bind, n_bindS, n_go, n_some, n_none, n_nox, n_var, n_gl, n_lit, n_bin, n_neg, n_not, n_cmp, n_chn, n_chnT, n_chnF, n_and, n_or, n_ite, n_call, n_bi, n_biq, n_ix, n_sl, n_srev, n_tup, n_lst, n_lstQ, n_comp, n_compQ, n_nil, n_nilO, n_cons, n_star, n_seqI, n_rg1, n_rg2, n_zip, n_enum, n_varQ, n_callQ, n_ixQ, n_slQ, n_srevQ, n_glQ, n_tupQ, n_binQ, n_biQ, n_biqQ, n_iteQ, n_litO, n_varO, n_binO, v_add, v_sub, v_mul, v_fdiv, v_mod, v_pow, v_adds, v_addt, v_lt, v_le, v_gt, v_ge, v_eq, v_ne, v_eqt, v_net, v_eqs, v_nes, v_eql, v_trb, v_abs, v_min, v_max, v_int, v_intb, v_lent, v_isi, v_ixt, v_tup, v_lst, v_lstq, x_nil, x_seq, x_nx, x_rt, x_bk, x_ct, x_set, x_setK, x_asg, x_asgK, x_par, x_parK, x_sub, x_subK, x_aug, x_augK, x_drop, x_ite, x_whl, x_for, x_ret, x_retN, x_brk, x_cont, x_pass, x_tru, x_wh, x_lnx, x_lct, x_lbk, x_lrt, x_turn, x_putn, x_putt, x_puts0, x_puts, x_ps0, x_ps, x_forv, x_fort, x_forl0, x_forl, x_cF, x_cv, x_ct', x_cl0, x_cl, x_t0, x_t1, x_w0, x_w, x_el, v_allv, v_allt, v_srct, v_sall, v_stup, v_nilB, v_rng1, Option.join_some, List.getElem?_cons_zero, List.getElem?_cons_succ, List.length_cons, List.length_nil, List.set_cons_zero, List.set_cons_succ, if_true, if_false, ite_true, ite_false, List.nil_append, List.append_nil, List.cons_append, Option.bind_some, Option.map_some, Option.elim_some, List.map_cons, List.map_nil, List.replicate_succ, List.replicate_zero, Nat.reduceSub, Nat.reduceAdd, Nat.reduceLT, Nat.sub_self, Nat.zero_lt_succ, Nat.lt_add_one, Bool.false_eq_true, Bool.not_true, Bool.not_false, isint_ok, abs_eq, decide_eq_false k1, decide_eq_false k2, decide_eq_false hb, red_ok hW hb hL]
/-! ### the dice -/
def Flat (m : M) : Prop := ∀ o ∈ m, o.undr 0 = true
structure Dc (c l : Nat) (m : M) : Prop where
  fl : Flat m
  ex : ∃ x y z : Int, m[l]? = some (.lst [.int x, .int y, .int z]) ∧ 0 ≤ x ∧ Lt 1100 x ∧ 0 ≤ y ∧ Lt 200 y ∧ 0 ≤ z ∧ z ≤ c
structure Up (c l : Nat) (m m' : M) : Prop where
  dc : Dc c l m'
  len : m'.length = m.length
  keep : ∀ k, k ≠ l → m'[k]? = m[k]?
theorem Up.trans {c c' l : Nat} {m m1 m2 : M} (a : Up c l m m1) (b : Up c' l m1 m2) : Up c' l m m2 := ⟨b.dc, b.len.trans a.len, fun k h => (b.keep k h).trans (a.keep k h)⟩
mutual
theorem undr0 : ∀ {d : D} (k : Nat), D.undr 0 d = true → D.undr k d = true
  | .loc l, k, h => by simp [D.undr, Nat.blt] at h
  | .tup ds, k, h => by simp only [D.undr] at h ⊢; exact undrL0 k h
  | .lam _ ds, k, h => by simp only [D.undr] at h ⊢; exact undrL0 k h
  | .non, _, _ => rfl
  | .bl _, _, _ => rfl
  | .int _, _, _ => rfl
  | .str _, _, _ => rfl
  | .ty _, _, _ => rfl
  | .fn _, _, _ => rfl
  | .cls _, _, _ => rfl
theorem undrL0 : ∀ {ds : List D} (k : Nat), D.undrL 0 ds = true → D.undrL k ds = true
  | [], _, _ => rfl
  | d :: ds, k, h => by
    simp only [D.undrL, Bool.and_eq_true] at h ⊢
    exact ⟨undr0 k h.1, undrL0 k h.2⟩
end
theorem undrM0 {o : MO} (k : Nat) (h : o.undr 0 = true) : o.undr k = true := by
  cases o with
  | lst ds => exact undrL0 k h
  | frz ds => exact undrL0 k h
  | ins c fs =>
    simp only [MO.undr, List.all_eq_true] at h ⊢
    exact fun p hp => undr0 k (h p hp)
  | dct kvs =>
    simp only [MO.undr, List.all_eq_true, Bool.and_eq_true] at h ⊢
    exact fun p hp => ⟨undr0 k (h p hp).1, undr0 k (h p hp).2⟩
theorem gc_flat {k : Nat} {d : D} {m : M} (f : Flat m) (hd : d.undr 0 = true) (hk : k ≤ m.length) : gc k d m = (d, m.take k) := by
  unfold gc
  split
  · rename_i h; rw [← h, List.take_length]
  · have : (m.take k).all (MO.undr k) = true := List.all_eq_true.mpr fun o ho => undrM0 k (f o (List.mem_of_mem_take ho))
    rw [if_pos this]
    have hd' := undr0 k hd
    cases d <;> first | (simp [D.undr, Nat.blt] at hd; done) | (dsimp only; rw [if_pos hd'])
theorem gc_len {k : Nat} {d : D} {m : M} (h : m.length = k) : gc k d m = (d, m) := by unfold gc; rw [if_pos h]
theorem c_ret2 {fs : Fs} {W : Nat} {f : FD} {ds : List D} {d : D} {m m' : M} (h : ds.length = f.np) (f0 : Flat m') (hd : d.undr 0 = true) (hk : m.length ≤ m'.length)
    (e : ex fs W f.body (ds.map some ++ List.replicate (f.n - f.np) none) m = .ok (.ret d) m') : callF fs W f ds m = .ok d (m'.take m.length) := by
  rw [c_call h, e]
  dsimp only
  rw [gc_flat f0 hd hk]
theorem Flat.app {m : M} {o : MO} (f : Flat m) (h : o.undr 0 = true) : Flat (m ++ [o]) := fun u hu => by
  rcases List.mem_append.mp hu with q | q
  · exact f u q
  · rw [List.mem_singleton.mp q]; exact h
theorem Flat.set {m : M} {o : MO} {l : Nat} (f : Flat m) (h : o.undr 0 = true) : Flat (m.set l o) := fun u hu => by
  rcases List.mem_or_eq_of_mem_set hu with q | q
  · exact f u q
  · rw [q]; exact h
theorem Dc.lt {c l : Nat} {m : M} (h : Dc c l m) : l < m.length := by
  obtain ⟨x, y, z, e, _⟩ := h.ex
  exact (List.getElem?_eq_some_iff.mp e).1
/-- a list is laid behind -/
theorem Dc.app {c l : Nat} {m : M} {o : MO} (h : Dc c l m) (ho : o.undr 0 = true) : Dc c l (m ++ [o]) := ⟨h.fl.app ho, by
  obtain ⟨x, y, z, e, r⟩ := h.ex
  exact ⟨x, y, z, by rw [List.getElem?_append_left h.lt]; exact e, r⟩⟩
/-- forgotten again -/
theorem Up.back {c l : Nat} {m m1 m2 : M} (h : Up c l m1 m2) (hl : l < m.length) (hm : ∀ k, k ≠ l → k < m.length → m1[k]? = m[k]?) (hk : m.length ≤ m1.length) : Up c l m (m2.take m.length) := by
  have l2 := h.len
  refine ⟨⟨fun o ho => h.dc.fl o (List.mem_of_mem_take ho), ?_⟩, by rw [List.length_take]; omega, fun k hk' => ?_⟩
  · obtain ⟨x, y, z, e, r⟩ := h.dc.ex
    exact ⟨x, y, z, by rw [List.getElem?_take, if_pos hl]; exact e, r⟩
  · rw [List.getElem?_take]
    split
    · rename_i hlt
      rw [h.keep k hk', hm k hk' hlt]
    · rename_i hlt
      rw [List.getElem?_eq_none (by omega)]
theorem ints3 (x y z : Int) : (MO.lst [.int x, .int y, .int z]).undr 0 = true := rfl
theorem fmod_pos {a b : Int} (h : 0 < b) : a.fmod b = a % b := Int.fmod_eq_emod_of_nonneg _ (by omega)
theorem fdiv_pos {a b : Int} (h : 0 < b) : a.fdiv b = a / b := Int.fdiv_eq_ediv_of_nonneg _ (by omega)
theorem ixN3 : L2.ixN 3 0 = some 0 ∧ L2.ixN 3 2 = some 2 := ⟨rfl, rfl⟩
theorem ix3 {l : Nat} {x y z : D} (h : m[l]? = some (.lst [x, y, z])) : ixV m (.loc l) (.int 0) = .ok x m ∧ ixV m (.loc l) (.int 1) = .ok y m ∧ ixV m (.loc l) (.int 2) = .ok z m := by
  have hi : items m (.loc l) = some [x, y, z] := by unfold items; dsimp only; rw [h]
  have hv : ∀ i : Int, ixV m (.loc l) (.int i) = (ofO (items m (.loc l)) m).bind fun ds m => ofO (L2.atI ds i) m := fun i => rfl
  refine ⟨?_, ?_, ?_⟩ <;> (rw [hv, hi]; rfl)
theorem set3 {l : Nat} {x y z v : D} (h : m[l]? = some (.lst [x, y, z])) : setV m (.loc l) (.int 0) v = .ok () (m.set l (.lst [v, y, z])) ∧ setV m (.loc l) (.int 2) v = .ok () (m.set l (.lst [x, y, v])) := by
  constructor <;> (unfold setV; dsimp only; rw [h]; rfl)
theorem roll_ok {c l : Nat} {k : Int} (hc : c ≤ 100000) (h : Dc c l m) (hk : 0 < k) (hk2 : Lt 100 k) : ∃ r m', runF fds W (n + 1) 20 [.loc l, .int k] m = .ok (.int r) m' ∧ 0 ≤ r ∧ r < k ∧ Up (c + 1) l m m' := by
  obtain ⟨x, y, z, e, x0, x1, y0, y1, z0, z1⟩ := h.ex
  have hl := h.lt
  have k0 : ¬ k = 0 := by omega
  have kpy : ∀ a : Int, Builtin.divisionGoesByPylong a k = false := fun a => hk2.noPy (by decide)
  have up : ∀ x' y' z' : Int, 0 ≤ x' → Lt 1100 x' → 0 ≤ y' → Lt 200 y' → 0 ≤ z' → z' ≤ (c + 1 : Nat) → Up (c + 1) l m (m.set l (.lst [.int x', .int y', .int z'])) := fun x' y' z' a1 a2 a3 a4 a5 a6 =>
    ⟨⟨h.fl.set (ints3 _ _ _), x', y', z', List.getElem?_set_self hl, a1, a2, a3, a4, a5, a6⟩, by simp, fun j hj => List.getElem?_set_ne (Ne.symm hj)⟩
  obtain ⟨i0, i1, i2⟩ := ix3 e
  by_cases hx : 0 < x
  · refine ⟨x % k, m.set l (.lst [.int (x / k), .int y, .int z]), ?_, Int.emod_nonneg _ k0, Int.emod_lt_of_pos _ hk, up _ _ _ (Int.ediv_nonneg x0 (by omega)) (x1.of_le (Int.natAbs_ediv_le_natAbs _ _)) y0 y1 z0 (by omega)⟩
    rw [runF_at (f := ⟨2, 5, b20⟩) rfl, c_call rfl]
    simp only [b20, n_bind, n_bindS, n_go, n_some, n_none, n_nox, n_var, n_gl, n_lit, n_bin, n_neg, n_not, n_cmp, n_chn, n_chnT, n_chnF, n_and, n_or, n_ite, n_call, n_bi, n_biq, n_ix, n_sl, n_srev, n_tup, n_lst, n_lstQ, n_comp, n_compQ, n_nil, n_nilO, n_cons, n_star, n_seqI, n_rg1, n_rg2, n_zip, n_enum, n_varQ, n_callQ, n_ixQ, n_slQ, n_srevQ, n_glQ, n_tupQ, n_binQ, n_biQ, n_biqQ, n_iteQ, n_litO, n_varO, n_binO, v_add, v_sub, v_mul, v_fdiv, v_mod, v_pow, v_adds, v_addt, v_lt, v_le, v_gt, v_ge, v_eq, v_ne, v_eqt, v_net, v_eqs, v_nes, v_eql, v_trb, v_abs, v_min, v_max, v_int, v_intb, v_lent, v_isi, v_ixt, v_tup, v_lst, v_lstq, x_nil, x_seq, x_nx, x_rt, x_bk, x_ct, x_set, x_setK, x_asg, x_asgK, x_par, x_parK, x_sub, x_subK, x_aug, x_augK, x_drop, x_ite, x_whl, x_for, x_ret, x_retN, x_brk, x_cont, x_pass, x_tru, x_wh, x_lnx, x_lct, x_lbk, x_lrt, x_turn, x_putn, x_putt, x_puts0, x_puts, x_ps0, x_ps, x_forv, x_fort, x_forl0, x_forl, x_cF, x_cv, x_ct', x_cl0, x_cl, x_t0, x_t1, x_w0, x_w, x_el, v_allv, v_allt, v_srct, v_sall, v_stup, v_nilB, v_rng1, Option.join_some, List.getElem?_cons_zero, List.getElem?_cons_succ, List.length_cons, List.length_nil, List.set_cons_zero, List.set_cons_succ, if_true, if_false, ite_true, ite_false, List.nil_append, List.append_nil, List.cons_append, Option.bind_some, Option.map_some, Option.elim_some, List.map_cons, List.map_nil, List.replicate_succ, List.replicate_zero, Nat.reduceSub, Nat.reduceAdd, Nat.reduceLT, Nat.sub_self, Nat.zero_lt_succ, Nat.lt_add_one, Bool.false_eq_true, Bool.not_true, Bool.not_false, i0, decide_eq_true hx, k0, kpy, fmod_pos hk, fdiv_pos hk, (set3 e).1, decide_false, Bool.or_self]
    rw [gc_len (by simp)]
  · obtain ⟨s0, s2⟩ := set3 (v := .int (z + 1)) e
    have e' : (m.set l (.lst [.int x, .int y, .int (z + 1)]))[l]? = some (.lst [.int x, .int y, .int (z + 1)]) := List.getElem?_set_self hl
    obtain ⟨j0, j1, j2⟩ := ix3 e'
    have zL : Lt 18 (z + 1) := by unfold Lt; omega
    have q1 : Ev.mulOk 49979687 (z + 1) = true := (show Lt 26 49979687 by decide).mulOk zL (by decide)
    have q2 : Ev.mulOk 131 (z + 1) = true := (show Lt 8 131 by decide).mulOk zL (by decide)
    have em : ∀ a : Int, Lt 61 (a % 2305843009213693951) := fun a => by
      have := Int.emod_nonneg a (show (2305843009213693951 : Int) ≠ 0 by decide)
      have := Int.emod_lt_of_pos a (show (0 : Int) < 2305843009213693951 by decide)
      unfold Lt; omega
    have em2 : ∀ a : Int, Lt 61 (a % 2305843009213693921) := fun a => by
      have := Int.emod_nonneg a (show (2305843009213693921 : Int) ≠ 0 by decide)
      have := Int.emod_lt_of_pos a (show (0 : Int) < 2305843009213693921 by decide)
      unfold Lt; omega
    have q3 : ∀ a : Int, Ev.mulOk (a % 2305843009213693951) (a % 2305843009213693951) = true := fun a => (em a).mulOk (em a) (by decide)
    have q4 : ∀ a : Int, Ev.mulOk (a % 2305843009213693921) 32452843 = true := fun a => (em2 a).mulOk (show Lt 25 32452843 by decide) (by decide)
    have p1 : ∀ a : Int, a.fmod 2305843009213693951 = a % 2305843009213693951 := fun a => fmod_pos (by decide)
    have p2 : ∀ a : Int, a.fmod 2305843009213693921 = a % 2305843009213693921 := fun a => fmod_pos (by decide)
    have d1 : ∀ a : Int, Builtin.divisionGoesByPylong a 65587 = false := fun a => (show Lt 17 65587 by decide).noPy (by decide)
    have n1 : ¬ ((2305843009213693951 : Int) = 0) := by decide
    have n2 : ¬ ((2305843009213693921 : Int) = 0) := by decide
    have n3 : decide ((65587 : Int) = 0) = false := by decide
    let one := (y + 49979687 * (z + 1)) % 2305843009213693951
    refine ⟨((one * one + 131 * (z + 1)) % 2305843009213693921 * 32452843 + one).fdiv 65587 % k, m.set l (.lst [.int x, .int y, .int (z + 1)]), ?_, Int.emod_nonneg _ k0, Int.emod_lt_of_pos _ hk, up _ _ _ x0 x1 y0 y1 (by omega) (by omega)⟩
    rw [runF_at (f := ⟨2, 5, b20⟩) rfl, c_call rfl]
    simp only [b20, n_bind, n_bindS, n_go, n_some, n_none, n_nox, n_var, n_gl, n_lit, n_bin, n_neg, n_not, n_cmp, n_chn, n_chnT, n_chnF, n_and, n_or, n_ite, n_call, n_bi, n_biq, n_ix, n_sl, n_srev, n_tup, n_lst, n_lstQ, n_comp, n_compQ, n_nil, n_nilO, n_cons, n_star, n_seqI, n_rg1, n_rg2, n_zip, n_enum, n_varQ, n_callQ, n_ixQ, n_slQ, n_srevQ, n_glQ, n_tupQ, n_binQ, n_biQ, n_biqQ, n_iteQ, n_litO, n_varO, n_binO, v_add, v_sub, v_mul, v_fdiv, v_mod, v_pow, v_adds, v_addt, v_lt, v_le, v_gt, v_ge, v_eq, v_ne, v_eqt, v_net, v_eqs, v_nes, v_eql, v_trb, v_abs, v_min, v_max, v_int, v_intb, v_lent, v_isi, v_ixt, v_tup, v_lst, v_lstq, x_nil, x_seq, x_nx, x_rt, x_bk, x_ct, x_set, x_setK, x_asg, x_asgK, x_par, x_parK, x_sub, x_subK, x_aug, x_augK, x_drop, x_ite, x_whl, x_for, x_ret, x_retN, x_brk, x_cont, x_pass, x_tru, x_wh, x_lnx, x_lct, x_lbk, x_lrt, x_turn, x_putn, x_putt, x_puts0, x_puts, x_ps0, x_ps, x_forv, x_fort, x_forl0, x_forl, x_cF, x_cv, x_ct', x_cl0, x_cl, x_t0, x_t1, x_w0, x_w, x_el, v_allv, v_allt, v_srct, v_sall, v_stup, v_nilB, v_rng1, Option.join_some, List.getElem?_cons_zero, List.getElem?_cons_succ, List.length_cons, List.length_nil, List.set_cons_zero, List.set_cons_succ, if_true, if_false, ite_true, ite_false, List.nil_append, List.append_nil, List.cons_append, Option.bind_some, Option.map_some, Option.elim_some, List.map_cons, List.map_nil, List.replicate_succ, List.replicate_zero, Nat.reduceSub, Nat.reduceAdd, Nat.reduceLT, Nat.sub_self, Nat.zero_lt_succ, Nat.lt_add_one, Bool.false_eq_true, Bool.not_true, Bool.not_false, i0, i2, decide_eq_false hx, s2, j0, j1, j2, q1, q2, q3, q4, p1, p2, d1, n1, n2, n3, k0, fmod_pos hk, Bool.or_self, decide_false]
    rw [gc_len (by simp)]
theorem lenl {l : Nat} {ds : List D} (h : m[l]? = some (.lst ds)) : biV .len m [.loc l] = .ok (.int ds.length) m := by
  rw [c_lenl]
  have hi : items m (.loc l) = some ds := by unfold items; dsimp only; rw [h]
  rw [hi]; rfl
theorem ixl {l : Nat} {ds : List D} {i : Int} {d : D} (h : m[l]? = some (.lst ds)) (h0 : L2.atI ds i = some d) : ixV m (.loc l) (.int i) = .ok d m := by
  have hi : items m (.loc l) = some ds := by unfold items; dsimp only; rw [h]
  show (ofO (items m (.loc l)) m).bind (fun ds m => ofO (L2.atI ds i) m) = _
  rw [hi]
  show ofO (L2.atI ds i) m = _
  rw [h0]; rfl
theorem atI_ok {ds : List D} {i : Int} (h0 : 0 ≤ i) (h1 : i < ds.length) (h2 : ds.length ≤ 100) : ∃ d, d ∈ ds ∧ L2.atI ds i = some d := by
  have hlt : i.toNat < ds.length := by omega
  refine ⟨ds[i.toNat], List.getElem_mem hlt, ?_⟩
  unfold L2.atI L2.ixN
  rw [if_pos h0, if_pos h1]
  exact List.getElem?_eq_getElem hlt
theorem pick_ok {c l k : Nat} {ds : List D} (hc : c ≤ 100000) (h : Dc c l m) (hk : k ≠ l) (e : m[k]? = some (.lst ds)) (h0 : ds ≠ []) (h1 : ds.length ≤ 100) : ∃ d m', d ∈ ds ∧ runF fds W (n + 2) 21 [.loc l, .loc k] m = .ok d m' ∧ Up (c + 1) l m m' := by
  have hp : 0 < ds.length := List.length_pos_iff.mpr h0
  obtain ⟨r, m', e1, r0, r1, u⟩ := roll_ok (W := W) (n := n) (k := (ds.length : Int)) hc h (by omega) (Lt.mono (a := 7) (by unfold Lt; omega) (by decide))
  obtain ⟨d, hd, ea⟩ := atI_ok r0 r1 h1
  refine ⟨d, m', hd, ?_, u⟩
  rw [runF_at (f := ⟨2, 2, b21⟩) rfl, c_call rfl]
  simp only [b21, n_bind, n_bindS, n_go, n_some, n_none, n_nox, n_var, n_gl, n_lit, n_bin, n_neg, n_not, n_cmp, n_chn, n_chnT, n_chnF, n_and, n_or, n_ite, n_call, n_bi, n_biq, n_ix, n_sl, n_srev, n_tup, n_lst, n_lstQ, n_comp, n_compQ, n_nil, n_nilO, n_cons, n_star, n_seqI, n_rg1, n_rg2, n_zip, n_enum, n_varQ, n_callQ, n_ixQ, n_slQ, n_srevQ, n_glQ, n_tupQ, n_binQ, n_biQ, n_biqQ, n_iteQ, n_litO, n_varO, n_binO, v_add, v_sub, v_mul, v_fdiv, v_mod, v_pow, v_adds, v_addt, v_lt, v_le, v_gt, v_ge, v_eq, v_ne, v_eqt, v_net, v_eqs, v_nes, v_eql, v_trb, v_abs, v_min, v_max, v_int, v_intb, v_lent, v_isi, v_ixt, v_tup, v_lst, v_lstq, x_nil, x_seq, x_nx, x_rt, x_bk, x_ct, x_set, x_setK, x_asg, x_asgK, x_par, x_parK, x_sub, x_subK, x_aug, x_augK, x_drop, x_ite, x_whl, x_for, x_ret, x_retN, x_brk, x_cont, x_pass, x_tru, x_wh, x_lnx, x_lct, x_lbk, x_lrt, x_turn, x_putn, x_putt, x_puts0, x_puts, x_ps0, x_ps, x_forv, x_fort, x_forl0, x_forl, x_cF, x_cv, x_ct', x_cl0, x_cl, x_t0, x_t1, x_w0, x_w, x_el, v_allv, v_allt, v_srct, v_sall, v_stup, v_nilB, v_rng1, Option.join_some, List.getElem?_cons_zero, List.getElem?_cons_succ, List.length_cons, List.length_nil, List.set_cons_zero, List.set_cons_succ, if_true, if_false, ite_true, ite_false, List.nil_append, List.append_nil, List.cons_append, Option.bind_some, Option.map_some, Option.elim_some, List.map_cons, List.map_nil, List.replicate_succ, List.replicate_zero, Nat.reduceSub, Nat.reduceAdd, Nat.reduceLT, Nat.sub_self, Nat.zero_lt_succ, Nat.lt_add_one, Bool.false_eq_true, Bool.not_true, Bool.not_false, lenl e, e1, ixl ((u.keep k hk).trans e) ea]
  rw [gc_len u.len]
end
end K21
set_option Elab.async false
set_option linter.all false
set_option maxRecDepth 100000
namespace K21
open PySem Ev
section
variable {W n : Nat} {m : M}
theorem app_keep {m : M} {o : MO} {k : Nat} (h : k < m.length) : (m ++ [o])[k]? = m[k]? := List.getElem?_append_left h
theorem app_last {m : M} {o : MO} : (m ++ [o])[m.length]? = some o := by simp
theorem pw6 : powOk 10 6 = true ∧ ((10 : Int) ^ (6 : Int).toNat) = 1000000 := by decide
theorem pw19 : powOk 10 19 = true ∧ ((10 : Int) ^ (19 : Int).toNat) = 10000000000000000000 := by decide
theorem f6 : fits 6 = true := fits_ok (by decide)
theorem int_ok {c l : Nat} (hc : c + 3 ≤ 100000) (h : Dc c l m) : ∃ (v : Int) (m' : M), runF fds W (n + 3) 26 [.loc l] m = .ok (.int v) m' ∧ v ≠ 0 ∧ v.natAbs ≤ 10 ^ 19 ∧ Up (c + 3) l m m' := by
  have hl := h.lt
  let ds : List D := [.int 10, .int 10, .int 10, .int 100, .int 1000000, .int 10000000000000000000]
  obtain ⟨d, m2, hd, e1, u1⟩ := pick_ok (W := W) (n := n) (ds := ds) (k := m.length) (by omega) (h.app (o := .lst ds) rfl) (by omega) app_last (by simp [ds]) (by simp [ds])
  obtain ⟨b, rfl, b0, b1'⟩ : ∃ b : Int, d = .int b ∧ 1 ≤ b ∧ b ≤ 10000000000000000000 := by
    simp only [ds, List.mem_cons, List.not_mem_nil, or_false] at hd
    rcases hd with rfl | rfl | rfl | rfl | rfl | rfl <;> exact ⟨_, rfl, by decide, by decide⟩
  obtain ⟨r, m3, e2, r0, r1, u2⟩ := roll_ok (W := W) (n := n + 1) (k := b) (by omega) u1.dc (by omega) (Lt.mono (a := 64) (by unfold Lt; omega) (by decide))
  obtain ⟨d2, m4, hd2, e3, u3⟩ := pick_ok (W := W) (n := n) (ds := [.int 1, .int (-1)]) (k := m3.length) (by omega) (u2.dc.app (o := .lst [.int 1, .int (-1)]) rfl) (by have := u2.dc.lt; omega) app_last (by simp) (by simp)
  obtain ⟨s, rfl, hs⟩ : ∃ s : Int, d2 = .int s ∧ (s = 1 ∨ s = -1) := by
    simp only [List.mem_cons, List.not_mem_nil, or_false] at hd2
    rcases hd2 with rfl | rfl
    · exact ⟨_, rfl, .inl rfl⟩
    · exact ⟨_, rfl, .inr rfl⟩
  have hlen3 : m3.length = m.length + 1 := by rw [u2.len, u1.len]; simp
  have hlen4 : m4.length = m.length + 2 := by rw [u3.len]; simp [hlen3]
  refine ⟨(1 + r) * s, m4.take m.length, ?_, ?_, ?_, ?_⟩
  · rw [runF_at (f := ⟨1, 2, b26⟩) rfl]
    have hm : Ev.mulOk (1 + r) s = true := (show Lt 65 (1 + r) by unfold Lt; omega).mulOk (b := 2) (by unfold Lt; rcases hs with rfl | rfl <;> decide) (by decide)
    refine c_ret2 rfl u3.dc.fl rfl (by omega) ?_
    simp only [b26, n_bind, n_bindS, n_go, n_some, n_none, n_nox, n_var, n_gl, n_lit, n_bin, n_neg, n_not, n_cmp, n_chn, n_chnT, n_chnF, n_and, n_or, n_ite, n_call, n_bi, n_biq, n_ix, n_sl, n_srev, n_tup, n_lst, n_lstQ, n_comp, n_compQ, n_nil, n_nilO, n_cons, n_star, n_seqI, n_rg1, n_rg2, n_zip, n_enum, n_varQ, n_callQ, n_ixQ, n_slQ, n_srevQ, n_glQ, n_tupQ, n_binQ, n_biQ, n_biqQ, n_iteQ, n_litO, n_varO, n_binO, v_add, v_sub, v_mul, v_fdiv, v_mod, v_pow, v_adds, v_addt, v_lt, v_le, v_gt, v_ge, v_eq, v_ne, v_eqt, v_net, v_eqs, v_nes, v_eql, v_trb, v_abs, v_min, v_max, v_int, v_intb, v_lent, v_isi, v_ixt, v_tup, v_lst, v_lstq, x_nil, x_seq, x_nx, x_rt, x_bk, x_ct, x_set, x_setK, x_asg, x_asgK, x_par, x_parK, x_sub, x_subK, x_aug, x_augK, x_drop, x_ite, x_whl, x_for, x_ret, x_retN, x_brk, x_cont, x_pass, x_tru, x_wh, x_lnx, x_lct, x_lbk, x_lrt, x_turn, x_putn, x_putt, x_puts0, x_puts, x_ps0, x_ps, x_forv, x_fort, x_forl0, x_forl, x_cF, x_cv, x_ct', x_cl0, x_cl, x_t0, x_t1, x_w0, x_w, x_el, v_allv, v_allt, v_srct, v_sall, v_stup, v_nilB, v_rng1, Option.join_some, List.getElem?_cons_zero, List.getElem?_cons_succ, List.length_cons, List.length_nil, List.set_cons_zero, List.set_cons_succ, if_true, if_false, ite_true, ite_false, List.nil_append, List.append_nil, List.cons_append, Option.bind_some, Option.map_some, Option.elim_some, List.map_cons, List.map_nil, List.replicate_succ, List.replicate_zero, Nat.reduceSub, Nat.reduceAdd, Nat.reduceLT, Nat.sub_self, Nat.zero_lt_succ, Nat.lt_add_one, Bool.false_eq_true, Bool.not_true, Bool.not_false, pw6.1, pw6.2, pw19.1, pw19.2, f6, f2]
    rw [show [D.int 10, D.int 10, D.int 10, D.int 100, D.int 1000000, D.int 10000000000000000000] = ds from rfl, e1]
    simp only [n_bind, n_bindS, n_go, n_some, n_none, n_nox, n_var, n_gl, n_lit, n_bin, n_neg, n_not, n_cmp, n_chn, n_chnT, n_chnF, n_and, n_or, n_ite, n_call, n_bi, n_biq, n_ix, n_sl, n_srev, n_tup, n_lst, n_lstQ, n_comp, n_compQ, n_nil, n_nilO, n_cons, n_star, n_seqI, n_rg1, n_rg2, n_zip, n_enum, n_varQ, n_callQ, n_ixQ, n_slQ, n_srevQ, n_glQ, n_tupQ, n_binQ, n_biQ, n_biqQ, n_iteQ, n_litO, n_varO, n_binO, v_add, v_sub, v_mul, v_fdiv, v_mod, v_pow, v_adds, v_addt, v_lt, v_le, v_gt, v_ge, v_eq, v_ne, v_eqt, v_net, v_eqs, v_nes, v_eql, v_trb, v_abs, v_min, v_max, v_int, v_intb, v_lent, v_isi, v_ixt, v_tup, v_lst, v_lstq, x_nil, x_seq, x_nx, x_rt, x_bk, x_ct, x_set, x_setK, x_asg, x_asgK, x_par, x_parK, x_sub, x_subK, x_aug, x_augK, x_drop, x_ite, x_whl, x_for, x_ret, x_retN, x_brk, x_cont, x_pass, x_tru, x_wh, x_lnx, x_lct, x_lbk, x_lrt, x_turn, x_putn, x_putt, x_puts0, x_puts, x_ps0, x_ps, x_forv, x_fort, x_forl0, x_forl, x_cF, x_cv, x_ct', x_cl0, x_cl, x_t0, x_t1, x_w0, x_w, x_el, v_allv, v_allt, v_srct, v_sall, v_stup, v_nilB, v_rng1, Option.join_some, List.getElem?_cons_zero, List.getElem?_cons_succ, List.length_cons, List.length_nil, List.set_cons_zero, List.set_cons_succ, if_true, if_false, ite_true, ite_false, List.nil_append, List.append_nil, List.cons_append, Option.bind_some, Option.map_some, Option.elim_some, List.map_cons, List.map_nil, List.replicate_succ, List.replicate_zero, Nat.reduceSub, Nat.reduceAdd, Nat.reduceLT, Nat.sub_self, Nat.zero_lt_succ, Nat.lt_add_one, Bool.false_eq_true, Bool.not_true, Bool.not_false, e2, f2]
    rw [e3]
    simp only [n_bind, n_bindS, n_go, n_some, n_none, n_nox, n_var, n_gl, n_lit, n_bin, n_neg, n_not, n_cmp, n_chn, n_chnT, n_chnF, n_and, n_or, n_ite, n_call, n_bi, n_biq, n_ix, n_sl, n_srev, n_tup, n_lst, n_lstQ, n_comp, n_compQ, n_nil, n_nilO, n_cons, n_star, n_seqI, n_rg1, n_rg2, n_zip, n_enum, n_varQ, n_callQ, n_ixQ, n_slQ, n_srevQ, n_glQ, n_tupQ, n_binQ, n_biQ, n_biqQ, n_iteQ, n_litO, n_varO, n_binO, v_add, v_sub, v_mul, v_fdiv, v_mod, v_pow, v_adds, v_addt, v_lt, v_le, v_gt, v_ge, v_eq, v_ne, v_eqt, v_net, v_eqs, v_nes, v_eql, v_trb, v_abs, v_min, v_max, v_int, v_intb, v_lent, v_isi, v_ixt, v_tup, v_lst, v_lstq, x_nil, x_seq, x_nx, x_rt, x_bk, x_ct, x_set, x_setK, x_asg, x_asgK, x_par, x_parK, x_sub, x_subK, x_aug, x_augK, x_drop, x_ite, x_whl, x_for, x_ret, x_retN, x_brk, x_cont, x_pass, x_tru, x_wh, x_lnx, x_lct, x_lbk, x_lrt, x_turn, x_putn, x_putt, x_puts0, x_puts, x_ps0, x_ps, x_forv, x_fort, x_forl0, x_forl, x_cF, x_cv, x_ct', x_cl0, x_cl, x_t0, x_t1, x_w0, x_w, x_el, v_allv, v_allt, v_srct, v_sall, v_stup, v_nilB, v_rng1, Option.join_some, List.getElem?_cons_zero, List.getElem?_cons_succ, List.length_cons, List.length_nil, List.set_cons_zero, List.set_cons_succ, if_true, if_false, ite_true, ite_false, List.nil_append, List.append_nil, List.cons_append, Option.bind_some, Option.map_some, Option.elim_some, List.map_cons, List.map_nil, List.replicate_succ, List.replicate_zero, Nat.reduceSub, Nat.reduceAdd, Nat.reduceLT, Nat.sub_self, Nat.zero_lt_succ, Nat.lt_add_one, Bool.false_eq_true, Bool.not_true, Bool.not_false, hm]
  · rcases hs with rfl | rfl <;> omega
  · rcases hs with rfl | rfl <;> omega
  · refine u3.back hl (fun k hk hlt => ?_) (by simp; omega)
    rw [app_keep (by omega), u2.keep k hk, u1.keep k hk, app_keep hlt]
theorem drawn_ok {c l : Nat} (hW : 2 ^ 8000 ≤ W) (hc : c + 7 ≤ 100000) (h : Dc c l m) : ∃ (q : Rat) (m' : M), runF fds W (n + 4) 27 [.loc l] m = .ok (fr q) m' ∧ Sz 65 q ∧ Up (c + 7) l m m' := by
  obtain ⟨r, m1, e1, r0, r1, u1⟩ := roll_ok (W := W) (n := n + 2) (k := 6) (by omega) h (by decide) (by decide)
  have wk : ∀ {a b : Nat} {m m' : M}, a ≤ b → Up a l m m' → Up b l m m' := fun {a b m m'} hab u => ⟨⟨u.dc.fl, by
    obtain ⟨x, y, z, q0, q1, q2, q3, q4, q5, q6⟩ := u.dc.ex
    exact ⟨x, y, z, q0, q1, q2, q3, q4, q5, by omega⟩⟩, u.len, u.keep⟩
  by_cases hr : r = 0
  · subst hr
    refine ⟨0, m1, ?_, ⟨by decide, by decide⟩, wk (by omega) u1⟩
    rw [runF_at (f := ⟨1, 1, b27⟩) rfl, c_call rfl]
    simp only [b27, n_bind, n_bindS, n_go, n_some, n_none, n_nox, n_var, n_gl, n_lit, n_bin, n_neg, n_not, n_cmp, n_chn, n_chnT, n_chnF, n_and, n_or, n_ite, n_call, n_bi, n_biq, n_ix, n_sl, n_srev, n_tup, n_lst, n_lstQ, n_comp, n_compQ, n_nil, n_nilO, n_cons, n_star, n_seqI, n_rg1, n_rg2, n_zip, n_enum, n_varQ, n_callQ, n_ixQ, n_slQ, n_srevQ, n_glQ, n_tupQ, n_binQ, n_biQ, n_biqQ, n_iteQ, n_litO, n_varO, n_binO, v_add, v_sub, v_mul, v_fdiv, v_mod, v_pow, v_adds, v_addt, v_lt, v_le, v_gt, v_ge, v_eq, v_ne, v_eqt, v_net, v_eqs, v_nes, v_eql, v_trb, v_abs, v_min, v_max, v_int, v_intb, v_lent, v_isi, v_ixt, v_tup, v_lst, v_lstq, x_nil, x_seq, x_nx, x_rt, x_bk, x_ct, x_set, x_setK, x_asg, x_asgK, x_par, x_parK, x_sub, x_subK, x_aug, x_augK, x_drop, x_ite, x_whl, x_for, x_ret, x_retN, x_brk, x_cont, x_pass, x_tru, x_wh, x_lnx, x_lct, x_lbk, x_lrt, x_turn, x_putn, x_putt, x_puts0, x_puts, x_ps0, x_ps, x_forv, x_fort, x_forl0, x_forl, x_cF, x_cv, x_ct', x_cl0, x_cl, x_t0, x_t1, x_w0, x_w, x_el, v_allv, v_allt, v_srct, v_sall, v_stup, v_nilB, v_rng1, Option.join_some, List.getElem?_cons_zero, List.getElem?_cons_succ, List.length_cons, List.length_nil, List.set_cons_zero, List.set_cons_succ, if_true, if_false, ite_true, ite_false, List.nil_append, List.append_nil, List.cons_append, Option.bind_some, Option.map_some, Option.elim_some, List.map_cons, List.map_nil, List.replicate_succ, List.replicate_zero, Nat.reduceSub, Nat.reduceAdd, Nat.reduceLT, Nat.sub_self, Nat.zero_lt_succ, Nat.lt_add_one, Bool.false_eq_true, Bool.not_true, Bool.not_false, e1, decide_true, f2]
    rw [gc_len u1.len]
    rfl
  · obtain ⟨v, m2, e2, v0, v1, u2⟩ := int_ok (W := W) (n := n) (by omega) u1.dc
    obtain ⟨v', m3, e3, v0', v1', u3⟩ := int_ok (W := W) (n := n) (by omega) u2.dc
    have hb : (v'.natAbs : Int) ≠ 0 := by omega
    have L1 : Lt 65 v := by unfold Lt; omega
    have L2 : Lt 65 (v'.natAbs : Int) := by unfold Lt; omega
    refine ⟨Rat.divInt v v'.natAbs, m3, ?_, divInt_sz hb L1 L2, wk (by omega) ((u1.trans u2).trans u3)⟩
    rw [runF_at (f := ⟨1, 1, b27⟩) rfl, c_call rfl]
    simp only [b27, n_bind, n_bindS, n_go, n_some, n_none, n_nox, n_var, n_gl, n_lit, n_bin, n_neg, n_not, n_cmp, n_chn, n_chnT, n_chnF, n_and, n_or, n_ite, n_call, n_bi, n_biq, n_ix, n_sl, n_srev, n_tup, n_lst, n_lstQ, n_comp, n_compQ, n_nil, n_nilO, n_cons, n_star, n_seqI, n_rg1, n_rg2, n_zip, n_enum, n_varQ, n_callQ, n_ixQ, n_slQ, n_srevQ, n_glQ, n_tupQ, n_binQ, n_biQ, n_biqQ, n_iteQ, n_litO, n_varO, n_binO, v_add, v_sub, v_mul, v_fdiv, v_mod, v_pow, v_adds, v_addt, v_lt, v_le, v_gt, v_ge, v_eq, v_ne, v_eqt, v_net, v_eqs, v_nes, v_eql, v_trb, v_abs, v_min, v_max, v_int, v_intb, v_lent, v_isi, v_ixt, v_tup, v_lst, v_lstq, x_nil, x_seq, x_nx, x_rt, x_bk, x_ct, x_set, x_setK, x_asg, x_asgK, x_par, x_parK, x_sub, x_subK, x_aug, x_augK, x_drop, x_ite, x_whl, x_for, x_ret, x_retN, x_brk, x_cont, x_pass, x_tru, x_wh, x_lnx, x_lct, x_lbk, x_lrt, x_turn, x_putn, x_putt, x_puts0, x_puts, x_ps0, x_ps, x_forv, x_fort, x_forl0, x_forl, x_cF, x_cv, x_ct', x_cl0, x_cl, x_t0, x_t1, x_w0, x_w, x_el, v_allv, v_allt, v_srct, v_sall, v_stup, v_nilB, v_rng1, Option.join_some, List.getElem?_cons_zero, List.getElem?_cons_succ, List.length_cons, List.length_nil, List.set_cons_zero, List.set_cons_succ, if_true, if_false, ite_true, ite_false, List.nil_append, List.append_nil, List.cons_append, Option.bind_some, Option.map_some, Option.elim_some, List.map_cons, List.map_nil, List.replicate_succ, List.replicate_zero, Nat.reduceSub, Nat.reduceAdd, Nat.reduceLT, Nat.sub_self, Nat.zero_lt_succ, Nat.lt_add_one, Bool.false_eq_true, Bool.not_true, Bool.not_false, e1, decide_eq_false hr, e2, e3, abs_eq, lfr_ok hW hb (L1.mono (show 65 ≤ 8000 by decide)) (L2.mono (show 65 ≤ 8000 by decide))]
    rw [gc_len ((u1.trans u2).trans u3).len]
theorem Dc.up {a b l : Nat} {m : M} (h : Dc a l m) (hab : a ≤ b) : Dc b l m := ⟨h.fl, by
  obtain ⟨x, y, z, q0, q1, q2, q3, q4, q5, q6⟩ := h.ex
  exact ⟨x, y, z, q0, q1, q2, q3, q4, q5, by omega⟩⟩
theorem pwd : powOk 10 53 = true ∧ ((10 : Int) ^ (53 : Int).toNat) = 100000000000000000000000000000000000000000000000000000 ∧ powOk 100000000000000000000000000000000000000000000000000000 6 = true ∧ (100000000000000000000000000000000000000000000000000000 : Int) ^ (6 : Int).toNat = 1000000000000000000000000000000000000000000000000000000000000000000000000000000000000000000000000000000000000000000000000000000000000000000000000000000000000000000000000000000000000000000000000000000000000000000000000000000000000000000000000000000000000000000000000000000000000000000000000000000000000000000000000000000 ∧ powOk 10 16 = true ∧ ((10 : Int) ^ (16 : Int).toNat) = 10000000000000000 := by decide
theorem f3 : fits 3 = true := fits_ok (by decide)
theorem dice_ok {ns : List Int} {spot : Int} (hm : m[0]? = some (.frz (ns.map D.int))) (f : Flat m) (h0 : 0 ≤ spot) (h1 : spot ≤ 100) (hl : ns.length ≤ 63) :
    ∃ m', runF fds W (n + 1) 19 [.loc 0, .int spot] m = .ok (.loc m.length) m' ∧ Dc 0 m.length m' ∧ m'.length = m.length + 1 ∧ ∀ k, k < m.length → m'[k]? = m[k]? := by
  have hi : items m (.loc 0) = some (ns.map D.int) := by unfold items; dsimp only; rw [hm]
  have hlen : biV .len m [.loc 0] = .ok (.int ns.length) m := by rw [c_lenl, hi]; simp only [n_bind, n_bindS, n_go, n_some, n_none, n_nox, n_var, n_gl, n_lit, n_bin, n_neg, n_not, n_cmp, n_chn, n_chnT, n_chnF, n_and, n_or, n_ite, n_call, n_bi, n_biq, n_ix, n_sl, n_srev, n_tup, n_lst, n_lstQ, n_comp, n_compQ, n_nil, n_nilO, n_cons, n_star, n_seqI, n_rg1, n_rg2, n_zip, n_enum, n_varQ, n_callQ, n_ixQ, n_slQ, n_srevQ, n_glQ, n_tupQ, n_binQ, n_biQ, n_biqQ, n_iteQ, n_litO, n_varO, n_binO, v_add, v_sub, v_mul, v_fdiv, v_mod, v_pow, v_adds, v_addt, v_lt, v_le, v_gt, v_ge, v_eq, v_ne, v_eqt, v_net, v_eqs, v_nes, v_eql, v_trb, v_abs, v_min, v_max, v_int, v_intb, v_lent, v_isi, v_ixt, v_tup, v_lst, v_lstq, x_nil, x_seq, x_nx, x_rt, x_bk, x_ct, x_set, x_setK, x_asg, x_asgK, x_par, x_parK, x_sub, x_subK, x_aug, x_augK, x_drop, x_ite, x_whl, x_for, x_ret, x_retN, x_brk, x_cont, x_pass, x_tru, x_wh, x_lnx, x_lct, x_lbk, x_lrt, x_turn, x_putn, x_putt, x_puts0, x_puts, x_ps0, x_ps, x_forv, x_fort, x_forl0, x_forl, x_cF, x_cv, x_ct', x_cl0, x_cl, x_t0, x_t1, x_w0, x_w, x_el, v_allv, v_allt, v_srct, v_sall, v_stup, v_nilB, v_rng1, Option.join_some, List.getElem?_cons_zero, List.getElem?_cons_succ, List.length_cons, List.length_nil, List.set_cons_zero, List.set_cons_succ, if_true, if_false, ite_true, ite_false, List.nil_append, List.append_nil, List.cons_append, Option.bind_some, Option.map_some, Option.elim_some, List.map_cons, List.map_nil, List.replicate_succ, List.replicate_zero, Nat.reduceSub, Nat.reduceAdd, Nat.reduceLT, Nat.sub_self, Nat.zero_lt_succ, Nat.lt_add_one, Bool.false_eq_true, Bool.not_true, Bool.not_false, List.length_map]
  have fin : ∀ cell : Int, ∃ x y : Int, (0 ≤ x ∧ Lt 1100 x ∧ 0 ≤ y ∧ Lt 200 y) ∧ (ex (runF fds W n) W (.seq (.set 3 (.bin .mod (.bi .int (.cons (.bi .abs (.cons (.var 2) .nil)) .nil)) (.bin .pow (.bin .pow (.lit (.int 10)) (.lit (.int 53))) (.lit (.int 6)))))
  (.seq (.set 4 (.bin .add (.bin .add (.bin .add (.bin .mul (.bin .mod (.var 3) (.lit (.int 2305843009213693907))) (.lit (.int 73))) (.bin .mul (.lit (.int 619)) (.var 1))) (.bin .mul (.lit (.int 41)) (.bi .int (.cons (.cmp .lt (.var 2) (.lit (.int 0))) .nil)))) (.lit (.int 17))))
  (.seq (.ret (.lst (.cons (.bi .max (.cons (.lit (.int 0)) (.cons (.bin .sub (.var 3) (.bin .pow (.lit (.int 10)) (.lit (.int 16)))) .nil))) (.cons (.var 4) (.cons (.lit (.int 0)) .nil)))))
  .nil))) [some (.loc 0), some (.int spot), some (.int cell), none, none] m = .ok (.ret (.loc m.length)) (m ++ [.lst [.int x, .int y, .int 0]])) := by
    intro cell
    have gp : (0 : Int) < 1000000000000000000000000000000000000000000000000000000000000000000000000000000000000000000000000000000000000000000000000000000000000000000000000000000000000000000000000000000000000000000000000000000000000000000000000000000000000000000000000000000000000000000000000000000000000000000000000000000000000000000000000000000 := by decide
    have mp : (0 : Int) < 2305843009213693907 := by decide
    have g1 := Int.emod_nonneg (cell.natAbs : Int) (show (1000000000000000000000000000000000000000000000000000000000000000000000000000000000000000000000000000000000000000000000000000000000000000000000000000000000000000000000000000000000000000000000000000000000000000000000000000000000000000000000000000000000000000000000000000000000000000000000000000000000000000000000000000000 : Int) ≠ 0 by decide)
    have g2 := Int.emod_lt_of_pos (cell.natAbs : Int) gp
    generalize hg : (cell.natAbs : Int) % 1000000000000000000000000000000000000000000000000000000000000000000000000000000000000000000000000000000000000000000000000000000000000000000000000000000000000000000000000000000000000000000000000000000000000000000000000000000000000000000000000000000000000000000000000000000000000000000000000000000000000000000000000000000 = great at g1 g2
    have s1 := Int.emod_nonneg great (show (2305843009213693907 : Int) ≠ 0 by decide)
    have s2 := Int.emod_lt_of_pos great mp
    have ls : Lt 61 (great % 2305843009213693907) := by unfold Lt; omega
    have q1 : Ev.mulOk (great % 2305843009213693907) 73 = true := ls.mulOk (show Lt 8 73 by decide) (by decide)
    have q2 : Ev.mulOk 619 spot = true := (show Lt 10 619 by decide).mulOk (show Lt 8 spot by unfold Lt; omega) (by decide)
    have q3 : Ev.mulOk 41 (if cell < 0 then 1 else 0) = true := (show Lt 8 41 by decide).mulOk (show Lt 8 (if cell < 0 then 1 else 0) by split <;> decide) (by decide)
    have n1 : ¬ ((1000000000000000000000000000000000000000000000000000000000000000000000000000000000000000000000000000000000000000000000000000000000000000000000000000000000000000000000000000000000000000000000000000000000000000000000000000000000000000000000000000000000000000000000000000000000000000000000000000000000000000000000000000000 : Int) = 0) := by decide
    have n2 : ¬ ((2305843009213693907 : Int) = 0) := by decide
    have hx : (2 : Nat) ^ 1100 > 1000000000000000000000000000000000000000000000000000000000000000000000000000000000000000000000000000000000000000000000000000000000000000000000000000000000000000000000000000000000000000000000000000000000000000000000000000000000000000000000000000000000000000000000000000000000000000000000000000000000000000000000000000000 := by decide
    refine ⟨if great - 10000000000000000 > 0 then great - 10000000000000000 else 0, ((great % 2305843009213693907 * 73 + 619 * spot) + 41 * (if cell < 0 then 1 else 0)) + 17, ⟨?_, ?_, ?_, ?_⟩, ?_⟩
    · split <;> omega
    · unfold Lt
      generalize (2 : Nat) ^ 1100 = K at hx
      split <;> omega
    · split <;> omega
    · unfold Lt
      have : (2 : Nat) ^ 200 = 1606938044258990275541962092341162602522202993782792835301376 := by decide
      rw [this]
      split <;> omega
    · simp only [n_bind, n_bindS, n_go, n_some, n_none, n_nox, n_var, n_gl, n_lit, n_bin, n_neg, n_not, n_cmp, n_chn, n_chnT, n_chnF, n_and, n_or, n_ite, n_call, n_bi, n_biq, n_ix, n_sl, n_srev, n_tup, n_lst, n_lstQ, n_comp, n_compQ, n_nil, n_nilO, n_cons, n_star, n_seqI, n_rg1, n_rg2, n_zip, n_enum, n_varQ, n_callQ, n_ixQ, n_slQ, n_srevQ, n_glQ, n_tupQ, n_binQ, n_biQ, n_biqQ, n_iteQ, n_litO, n_varO, n_binO, v_add, v_sub, v_mul, v_fdiv, v_mod, v_pow, v_adds, v_addt, v_lt, v_le, v_gt, v_ge, v_eq, v_ne, v_eqt, v_net, v_eqs, v_nes, v_eql, v_trb, v_abs, v_min, v_max, v_int, v_intb, v_lent, v_isi, v_ixt, v_tup, v_lst, v_lstq, x_nil, x_seq, x_nx, x_rt, x_bk, x_ct, x_set, x_setK, x_asg, x_asgK, x_par, x_parK, x_sub, x_subK, x_aug, x_augK, x_drop, x_ite, x_whl, x_for, x_ret, x_retN, x_brk, x_cont, x_pass, x_tru, x_wh, x_lnx, x_lct, x_lbk, x_lrt, x_turn, x_putn, x_putt, x_puts0, x_puts, x_ps0, x_ps, x_forv, x_fort, x_forl0, x_forl, x_cF, x_cv, x_ct', x_cl0, x_cl, x_t0, x_t1, x_w0, x_w, x_el, v_allv, v_allt, v_srct, v_sall, v_stup, v_nilB, v_rng1, Option.join_some, List.getElem?_cons_zero, List.getElem?_cons_succ, List.length_cons, List.length_nil, List.set_cons_zero, List.set_cons_succ, if_true, if_false, ite_true, ite_false, List.nil_append, List.append_nil, List.cons_append, Option.bind_some, Option.map_some, Option.elim_some, List.map_cons, List.map_nil, List.replicate_succ, List.replicate_zero, Nat.reduceSub, Nat.reduceAdd, Nat.reduceLT, Nat.sub_self, Nat.zero_lt_succ, Nat.lt_add_one, Bool.false_eq_true, Bool.not_true, Bool.not_false, abs_eq, pwd.1, pwd.2.1, pwd.2.2.1, pwd.2.2.2.1, pwd.2.2.2.2.1, pwd.2.2.2.2.2, n1, n2, fmod_pos gp, fmod_pos mp, hg, q1, q2, q3, f3, decide_eq_true_eq]
  have fin2 : ∃ x y : Int, (0 ≤ x ∧ Lt 1100 x ∧ 0 ≤ y ∧ Lt 200 y) ∧ runF fds W (n + 1) 19 [.loc 0, .int spot] m = .ok (.loc m.length) (m ++ [.lst [.int x, .int y, .int 0]]) := by
    have gcl : ∀ x y : Int, gc m.length (.loc m.length) (m ++ [.lst [.int x, .int y, .int 0]]) = (.loc m.length, m ++ [.lst [.int x, .int y, .int 0]]) := fun x y => by
      unfold gc
      rw [if_neg (by simp), if_pos]
      · dsimp only
        rw [if_neg (by omega)]
        simp [MO.undr, D.undrL, D.undr]
      · refine List.all_eq_true.mpr fun o ho => undrM0 _ ?_
        rw [List.take_left] at ho
        exact f o ho
    by_cases hs : spot < ns.length
    · obtain ⟨d, hd, ea⟩ := atI_ok (ds := ns.map D.int) h0 (by simpa using hs) (by simpa using (by omega : ns.length ≤ 100))
      obtain ⟨c, _, rfl⟩ := List.mem_map.mp hd
      obtain ⟨x, y, hxy, e⟩ := fin c
      refine ⟨x, y, hxy, ?_⟩
      have eix : ixV m (.loc 0) (.int spot) = .ok (.int c) m := by
        show (ofO (items m (.loc 0)) m).bind (fun ds m => ofO (L2.atI ds spot) m) = _
        rw [hi]
        show ofO (L2.atI _ spot) m = _
        rw [ea]; rfl
      rw [runF_at (f := ⟨2, 5, b19⟩) rfl, c_call rfl]
      unfold b19
      rw [x_seq]
      simp only [x_set, n_ite, n_cmp, n_var, n_bi, n_cons, n_nil, n_ix, n_some, n_bind, n_go, hlen, v_lt, v_trb, decide_eq_true hs, eix, v_int, x_setK, x_nx, List.map_cons, List.map_nil, List.getElem?_cons_zero, List.getElem?_cons_succ, Option.join_some, if_true, List.length_cons, List.length_nil, List.set_cons_succ, List.set_cons_zero, List.cons_append, List.nil_append, Nat.reduceSub, List.replicate_succ, List.replicate_zero, Nat.reduceAdd, Nat.reduceLT, e]
      rw [gcl]
    · obtain ⟨x, y, hxy, e⟩ := fin (131 * spot + 37)
      refine ⟨x, y, hxy, ?_⟩
      have q : Ev.mulOk 131 spot = true := (show Lt 10 131 by decide).mulOk (show Lt 8 spot by unfold Lt; omega) (by decide)
      rw [runF_at (f := ⟨2, 5, b19⟩) rfl, c_call rfl]
      unfold b19
      rw [x_seq]
      simp only [x_set, n_ite, n_cmp, n_var, n_bi, n_cons, n_nil, n_ix, n_some, n_bind, n_go, n_bin, n_lit, v_mul, v_add, q, hlen, v_lt, v_trb, decide_eq_false hs, v_int, x_setK, x_nx, List.map_cons, List.map_nil, List.getElem?_cons_zero, List.getElem?_cons_succ, Option.join_some, if_true, Bool.false_eq_true, if_false, List.length_cons, List.length_nil, List.set_cons_succ, List.set_cons_zero, List.cons_append, List.nil_append, Nat.reduceSub, List.replicate_succ, List.replicate_zero, Nat.reduceAdd, Nat.reduceLT, e]
      rw [gcl]
  obtain ⟨x, y, ⟨x0, x1, y0, y1⟩, e⟩ := fin2
  exact ⟨_, e, ⟨f.app (ints3 _ _ _), x, y, 0, app_last, x0, x1, y0, y1, by decide, by decide⟩, by simp, fun k hk => app_keep hk⟩
end
end K21
set_option Elab.async false
set_option linter.all false
set_option maxRecDepth 100000
namespace K21
open PySem Ev
section
variable {W n : Nat} {m : M}
/-! ### texts -/
def frP (q : Rat) : PyData := .tuple [.int q.num, .int q.den]
theorem textFrom_le : ∀ (ts : List Str) (k : Nat) (acc : Str), (textFrom k acc ts).length ≤ acc.length + piled ts
  | [], k, acc => by show acc.length ≤ _; omega
  | t :: r, k, acc => by
    have h := textFrom_le r (k + 1) (acc ++ (if k > 0 then ", " else "" : String) ++ t)
    have e : (((if k > 0 then ", " else "" : String) : Str)).length ≤ 2 := by split <;> decide +kernel
    rw [strLen_append, strLen_append] at h
    rw [piled_cons]
    exact Nat.le_trans h (by omega)
theorem listText_le (ts : List Str) : (listText ts).length ≤ piled ts + 2 := by
  unfold listText
  rw [strLen_append]
  have h := textFrom_le ts 0 "["
  have e1 : ((("[" : String) : Str)).length = 1 := rfl
  have e2 : ((("]" : String) : Str)).length = 1 := rfl
  omega
theorem log_lt {k : Nat} {i : Int} (h : Lt k i) (hk : k ≤ 1900) : i.natAbs.log2 < 1920 := Nat.lt_of_le_of_lt h.log (by omega)
theorem frP_len {q : Rat} (h : Sz 1900 q) : (frP q).shown.length ≤ 3850 := by
  have l1 := PyProof.Rows.int_text_len_1921 (log_lt h.1 (Nat.le_refl _))
  have l2 := PyProof.Rows.int_text_len_1921 (log_lt h.2 (Nat.le_refl _))
  unfold frP
  simp only [PyData.shown, PyData.shownAll]
  refine Nat.le_trans (fmt_text _) ?_
  rw [piled_cons, piled_cons, piled_nil]
  omega
theorem frP_show {q : Rat} (h : Sz 1900 q) : (frP q).showable = true := by
  unfold frP
  simp only [PyData.showable, PyData.showableAll, decide_eq_true (log_lt h.1 (Nat.le_refl _)), decide_eq_true (log_lt h.2 (Nat.le_refl _)), Bool.and_self]
theorem big : 1000000 ≤ sizeLine := by rw [sizeLine_eq]; decide
theorem fits_big {k : Nat} (h : k ≤ 1000000) : fits k = true := by
  unfold fits
  exact Nat.ble_eq_true_of_le (Nat.le_trans h big)
theorem repr_fr {q : Rat} (h : Sz 1900 q) : biV .repr m [fr q] = .ok (.str (frP q).shown) m := by
  have e : biV .repr m [fr q] = (if (frP q).showable && !(frP q).hasDict && Nat.blt (frP q).depth 60 && fits (frP q).shown.length && isTL (frP q) then .ok (.str (frP q).shown) m else .stuck) := rfl
  rw [e, frP_show h, fits_big (Nat.le_trans (frP_len h) (by decide))]
  rfl
theorem mapM_fr : ∀ (qs : List Rat), (qs.map fr).mapM (pyD m 39) = some (qs.map frP)
  | [] => rfl
  | q :: qs => by
    rw [List.map_cons, List.mapM_cons, mapM_fr qs]
    rfl
theorem list_show : ∀ (qs : List Rat), (∀ q ∈ qs, Sz 1900 q) → PyData.showableAll (qs.map frP) = true ∧ PyData.hasDictAll (qs.map frP) = false ∧ PyData.depthAll (qs.map frP) ≤ 5 ∧ piled (PyData.shownAll (qs.map frP)) ≤ 3852 * qs.length
  | [], _ => ⟨rfl, rfl, by decide, by decide⟩
  | q :: qs, h => by
    obtain ⟨h1, h2, h3, h4⟩ := list_show qs fun r hr => h r (List.mem_cons_of_mem _ hr)
    have hq := h q List.mem_cons_self
    have hl := frP_len hq
    refine ⟨?_, ?_, ?_, ?_⟩
    · simp only [List.map_cons, PyData.showableAll, frP_show hq, h1, Bool.and_self]
    · simp only [List.map_cons, PyData.hasDictAll, h2]; rfl
    · simp only [List.map_cons, PyData.depthAll]
      have : (frP q).depth ≤ 3 := by show PyData.depth (.tuple [.int _, .int _]) ≤ 3; simp [PyData.depth, PyData.depthAll]
      omega
    · simp only [List.map_cons, PyData.shownAll, List.length_cons]
      rw [piled_cons]
      omega
theorem repr_list {qs : List Rat} {l : Nat} (hm : m[l]? = some (.lst (qs.map fr))) (h : ∀ q ∈ qs, Sz 1900 q) (hl : qs.length ≤ 100) : biV .repr m [.loc l] = .ok (.str (PyData.list (qs.map frP)).shown) m := by
  have hp : pyD m 40 (.loc l) = some (.list (qs.map frP)) := by
    show (match m[l]? with
      | some (.lst ds) => (ds.mapM (pyD m 39)).map PyData.list
      | some (.frz ds) => (ds.mapM (pyD m 39)).map PyData.list
      | _ => none) = _
    rw [hm]
    show ((qs.map fr).mapM (pyD m 39)).map PyData.list = _
    rw [mapM_fr]; rfl
  obtain ⟨h1, h2, h3, h4⟩ := list_show qs h
  have e : biV .repr m [.loc l] = (match pyD m 40 (.loc l) with
    | some p => if p.showable && !p.hasDict && Nat.blt p.depth 60 && fits p.shown.length && isTL p then .ok (.str p.shown) m else .stuck
    | none => .stuck) := rfl
  rw [e, hp]
  dsimp only
  have s1 : (PyData.list (qs.map frP)).showable = true := by simp only [PyData.showable, h1]
  have s2 : (PyData.list (qs.map frP)).hasDict = false := by simp only [PyData.hasDict, h2]
  have s3 : Nat.blt (PyData.list (qs.map frP)).depth 60 = true := by
    refine Nat.ble_eq_true_of_le ?_
    simp only [PyData.depth]
    omega
  have s4 : fits (PyData.list (qs.map frP)).shown.length = true := by
    refine fits_big ?_
    simp only [PyData.shown]
    have := listText_le (PyData.shownAll (qs.map frP))
    omega
  rw [s1, s2, s3, s4]
  rfl
end
end K21
set_option Elab.async false
set_option linter.all false
set_option maxRecDepth 100000
namespace K21
open PySem Ev
section
variable {W n : Nat} {m : M} {c l : Nat} {p q r : Rat} {v4 v5 v6 v7 v8 v9 v10 v11 v12 v13 : Option D}
theorem sz3 {k : Nat} {q : Rat} (h : Sz k q) (hk : k ≤ 3000 := by decide) : Sz 3000 q := h.mono hk
theorem r0 (hW : 2 ^ 8000 ≤ W) (hc : c + 21 ≤ 100000) (h : Dc c l m) : ∃ (p q r : Rat) (m' : M), Sz 65 p ∧ Sz 65 q ∧ Sz 65 r ∧ Up (c + 21) l m m' ∧
    ex (runF fds W (n + 6)) W b28s0 [some (.loc l), none, none, none, v4, v5, v6, v7, v8, v9, v10, v11, v12, v13] m = .ok (.nx [some (.loc l), some (fr p), some (fr q), some (fr r), v4, v5, v6, v7, v8, v9, v10, v11, v12, v13]) m' := by
  obtain ⟨p, m1, e1, s1, u1⟩ := drawn_ok (n := n + 2) hW (by omega) h
  obtain ⟨q, m2, e2, s2, u2⟩ := drawn_ok (n := n + 2) hW (by omega) u1.dc
  obtain ⟨r, m3, e3, s3, u3⟩ := drawn_ok (n := n + 2) hW (by omega) u2.dc
  refine ⟨p, q, r, m3, s1, s2, s3, (u1.trans u2).trans u3, ?_⟩
  simp only [b28s0, n_bind, n_bindS, n_go, n_some, n_none, n_nox, n_var, n_gl, n_lit, n_bin, n_neg, n_not, n_cmp, n_chn, n_chnT, n_chnF, n_and, n_or, n_ite, n_call, n_bi, n_biq, n_ix, n_sl, n_srev, n_tup, n_lst, n_lstQ, n_comp, n_compQ, n_nil, n_nilO, n_cons, n_star, n_seqI, n_rg1, n_rg2, n_zip, n_enum, n_varQ, n_callQ, n_ixQ, n_slQ, n_srevQ, n_glQ, n_tupQ, n_binQ, n_biQ, n_biqQ, n_iteQ, n_litO, n_varO, n_binO, v_add, v_sub, v_mul, v_fdiv, v_mod, v_pow, v_adds, v_addt, v_lt, v_le, v_gt, v_ge, v_eq, v_ne, v_eqt, v_net, v_eqs, v_nes, v_eql, v_trb, v_abs, v_min, v_max, v_int, v_intb, v_lent, v_isi, v_ixt, v_tup, v_lst, v_lstq, x_nil, x_seq, x_nx, x_rt, x_bk, x_ct, x_set, x_setK, x_asg, x_asgK, x_par, x_parK, x_sub, x_subK, x_aug, x_augK, x_drop, x_ite, x_whl, x_for, x_ret, x_retN, x_brk, x_cont, x_pass, x_tru, x_wh, x_lnx, x_lct, x_lbk, x_lrt, x_turn, x_putn, x_putt, x_puts0, x_puts, x_ps0, x_ps, x_forv, x_fort, x_forl0, x_forl, x_cF, x_cv, x_ct', x_cl0, x_cl, x_t0, x_t1, x_w0, x_w, x_el, v_allv, v_allt, v_srct, v_sall, v_stup, v_nilB, v_rng1, Option.join_some, List.getElem?_cons_zero, List.getElem?_cons_succ, List.length_cons, List.length_nil, List.set_cons_zero, List.set_cons_succ, if_true, if_false, ite_true, ite_false, List.nil_append, List.append_nil, List.cons_append, Option.bind_some, Option.map_some, Option.elim_some, List.map_cons, List.map_nil, List.replicate_succ, List.replicate_zero, Nat.reduceSub, Nat.reduceAdd, Nat.reduceLT, Nat.sub_self, Nat.zero_lt_succ, Nat.lt_add_one, Bool.false_eq_true, Bool.not_true, Bool.not_false, e1, e2, e3]
theorem f4 : fits 4 = true := fits_ok (by decide)
theorem r1 (hW : 2 ^ 8000 ≤ W) (hp : Sz 65 p) (hq : Sz 65 q) : ex (runF fds W (n + 6)) W b28s1 [some (.loc l), some (fr p), some (fr q), some (fr r), v4, v5, v6, v7, v8, v9, v10, v11, v12, v13] m =
    .ok (.nx [some (.loc l), some (fr p), some (fr q), some (fr r), some (.loc m.length), v5, v6, v7, v8, v9, v10, v11, v12, v13]) (m ++ [.lst ([p + q, p - q, p * q, p].map fr)]) := by
  have hd : Sz 3000 (p - q) := by rw [Rat.sub_eq_add_neg]; exact sz3 (hp.add hq.neg)
  have e : p - q + q = p := Rat.sub_add_cancel
  simp only [b28s1, n_bind, n_bindS, n_go, n_some, n_none, n_nox, n_var, n_gl, n_lit, n_bin, n_neg, n_not, n_cmp, n_chn, n_chnT, n_chnF, n_and, n_or, n_ite, n_call, n_bi, n_biq, n_ix, n_sl, n_srev, n_tup, n_lst, n_lstQ, n_comp, n_compQ, n_nil, n_nilO, n_cons, n_star, n_seqI, n_rg1, n_rg2, n_zip, n_enum, n_varQ, n_callQ, n_ixQ, n_slQ, n_srevQ, n_glQ, n_tupQ, n_binQ, n_biQ, n_biqQ, n_iteQ, n_litO, n_varO, n_binO, v_add, v_sub, v_mul, v_fdiv, v_mod, v_pow, v_adds, v_addt, v_lt, v_le, v_gt, v_ge, v_eq, v_ne, v_eqt, v_net, v_eqs, v_nes, v_eql, v_trb, v_abs, v_min, v_max, v_int, v_intb, v_lent, v_isi, v_ixt, v_tup, v_lst, v_lstq, x_nil, x_seq, x_nx, x_rt, x_bk, x_ct, x_set, x_setK, x_asg, x_asgK, x_par, x_parK, x_sub, x_subK, x_aug, x_augK, x_drop, x_ite, x_whl, x_for, x_ret, x_retN, x_brk, x_cont, x_pass, x_tru, x_wh, x_lnx, x_lct, x_lbk, x_lrt, x_turn, x_putn, x_putt, x_puts0, x_puts, x_ps0, x_ps, x_forv, x_fort, x_forl0, x_forl, x_cF, x_cv, x_ct', x_cl0, x_cl, x_t0, x_t1, x_w0, x_w, x_el, v_allv, v_allt, v_srct, v_sall, v_stup, v_nilB, v_rng1, Option.join_some, List.getElem?_cons_zero, List.getElem?_cons_succ, List.length_cons, List.length_nil, List.set_cons_zero, List.set_cons_succ, if_true, if_false, ite_true, ite_false, List.nil_append, List.append_nil, List.cons_append, Option.bind_some, Option.map_some, Option.elim_some, List.map_cons, List.map_nil, List.replicate_succ, List.replicate_zero, Nat.reduceSub, Nat.reduceAdd, Nat.reduceLT, Nat.sub_self, Nat.zero_lt_succ, Nat.lt_add_one, Bool.false_eq_true, Bool.not_true, Bool.not_false, plus_ok (n := n + 2) hW (sz3 hp) (sz3 hq), minus_ok (n := n + 2) hW (sz3 hp) (sz3 hq), times_ok (n := n + 2) hW (sz3 hp) (sz3 hq), plus_ok (n := n + 2) hW hd (sz3 hq), e, f4]
theorem r2 (hW : 2 ^ 8000 ≤ W) (hp : Sz 65 p) (hq : Sz 65 q) {L : Nat} (hL : m[L]? = some (.lst ([p + q, p - q, p * q, p].map fr))) : ex (runF fds W (n + 6)) W b28s2 [some (.loc l), some (fr p), some (fr q), some (fr r), some (.loc L), v5, v6, v7, v8, v9, v10, v11, v12, v13] m =
    .ok (.nx [some (.loc l), some (fr p), some (fr q), some (fr r), some (.loc L), v5, v6, v7, v8, v9, v10, v11, v12, v13]) (m ++ [.lst ([p + q, p - q, p * q, p].map fr)]) := by
  have hs : ∀ x ∈ [p + q, p - q, p * q, p], Sz 1900 x := by
    intro x hx
    simp only [List.mem_cons, List.not_mem_nil, or_false] at hx
    rcases hx with rfl | rfl | rfl | rfl
    · exact (hp.add hq).mono (by decide)
    · rw [Rat.sub_eq_add_neg]; exact (hp.add hq.neg).mono (by decide)
    · exact (hp.mul hq).mono (by decide)
    · exact hp.mono (by decide)
  have e1 := repr_list hL hs (by simp)
  have e2 := repr_list (m := m ++ [.lst ([p + q, p - q, p * q, p].map fr)]) (l := m.length) app_last hs (by simp)
  simp only [List.map_cons, List.map_nil] at e1 e2 ⊢
  simp only [b28s2, n_bind, n_bindS, n_go, n_some, n_none, n_nox, n_var, n_gl, n_lit, n_bin, n_neg, n_not, n_cmp, n_chn, n_chnT, n_chnF, n_and, n_or, n_ite, n_call, n_bi, n_biq, n_ix, n_sl, n_srev, n_tup, n_lst, n_lstQ, n_comp, n_compQ, n_nil, n_nilO, n_cons, n_star, n_seqI, n_rg1, n_rg2, n_zip, n_enum, n_varQ, n_callQ, n_ixQ, n_slQ, n_srevQ, n_glQ, n_tupQ, n_binQ, n_biQ, n_biqQ, n_iteQ, n_litO, n_varO, n_binO, v_add, v_sub, v_mul, v_fdiv, v_mod, v_pow, v_adds, v_addt, v_lt, v_le, v_gt, v_ge, v_eq, v_ne, v_eqt, v_net, v_eqs, v_nes, v_eql, v_trb, v_abs, v_min, v_max, v_int, v_intb, v_lent, v_isi, v_ixt, v_tup, v_lst, v_lstq, x_nil, x_seq, x_nx, x_rt, x_bk, x_ct, x_set, x_setK, x_asg, x_asgK, x_par, x_parK, x_sub, x_subK, x_aug, x_augK, x_drop, x_ite, x_whl, x_for, x_ret, x_retN, x_brk, x_cont, x_pass, x_tru, x_wh, x_lnx, x_lct, x_lbk, x_lrt, x_turn, x_putn, x_putt, x_puts0, x_puts, x_ps0, x_ps, x_forv, x_fort, x_forl0, x_forl, x_cF, x_cv, x_ct', x_cl0, x_cl, x_t0, x_t1, x_w0, x_w, x_el, v_allv, v_allt, v_srct, v_sall, v_stup, v_nilB, v_rng1, Option.join_some, List.getElem?_cons_zero, List.getElem?_cons_succ, List.length_cons, List.length_nil, List.set_cons_zero, List.set_cons_succ, if_true, if_false, ite_true, ite_false, List.nil_append, List.append_nil, List.cons_append, Option.bind_some, Option.map_some, Option.elim_some, List.map_cons, List.map_nil, List.replicate_succ, List.replicate_zero, Nat.reduceSub, Nat.reduceAdd, Nat.reduceLT, Nat.sub_self, Nat.zero_lt_succ, Nat.lt_add_one, Bool.false_eq_true, Bool.not_true, Bool.not_false, e1, lplus_ok (n := n + 4) hW (sz3 hp) (sz3 hq), lminus_ok (n := n + 4) hW (sz3 hp) (sz3 hq), ltimes_ok (n := n + 4) hW (sz3 hp) (sz3 hq), f4, e2, decide_true]
theorem r3 (hW : 2 ^ 8000 ≤ W) (hp : Sz 65 p) (hq : Sz 65 q) : ∃ y, ex (runF fds W (n + 6)) W b28s3 [some (.loc l), some (fr p), some (fr q), some (fr r), v4, v5, v6, v7, v8, v9, v10, v11, v12, v13] m =
    .ok (.nx [some (.loc l), some (fr p), some (fr q), some (fr r), v4, y, v6, v7, v8, v9, v10, v11, v12, v13]) m := by
  have ef : fr q = .tup [.int q.num, .int q.den] := rfl
  by_cases h0 : q = 0
  · refine ⟨v5, ?_⟩
    have hn : q.num = 0 := by rw [h0]; rfl
    have ei : ixV m (fr q) (.int 0) = .ok (.int q.num) m := rfl
    simp only [b28s3, n_bind, n_bindS, n_go, n_some, n_none, n_nox, n_var, n_gl, n_lit, n_bin, n_neg, n_not, n_cmp, n_chn, n_chnT, n_chnF, n_and, n_or, n_ite, n_call, n_bi, n_biq, n_ix, n_sl, n_srev, n_tup, n_lst, n_lstQ, n_comp, n_compQ, n_nil, n_nilO, n_cons, n_star, n_seqI, n_rg1, n_rg2, n_zip, n_enum, n_varQ, n_callQ, n_ixQ, n_slQ, n_srevQ, n_glQ, n_tupQ, n_binQ, n_biQ, n_biqQ, n_iteQ, n_litO, n_varO, n_binO, v_add, v_sub, v_mul, v_fdiv, v_mod, v_pow, v_adds, v_addt, v_lt, v_le, v_gt, v_ge, v_eq, v_ne, v_eqt, v_net, v_eqs, v_nes, v_eql, v_trb, v_abs, v_min, v_max, v_int, v_intb, v_lent, v_isi, v_ixt, v_tup, v_lst, v_lstq, x_nil, x_seq, x_nx, x_rt, x_bk, x_ct, x_set, x_setK, x_asg, x_asgK, x_par, x_parK, x_sub, x_subK, x_aug, x_augK, x_drop, x_ite, x_whl, x_for, x_ret, x_retN, x_brk, x_cont, x_pass, x_tru, x_wh, x_lnx, x_lct, x_lbk, x_lrt, x_turn, x_putn, x_putt, x_puts0, x_puts, x_ps0, x_ps, x_forv, x_fort, x_forl0, x_forl, x_cF, x_cv, x_ct', x_cl0, x_cl, x_t0, x_t1, x_w0, x_w, x_el, v_allv, v_allt, v_srct, v_sall, v_stup, v_nilB, v_rng1, Option.join_some, List.getElem?_cons_zero, List.getElem?_cons_succ, List.length_cons, List.length_nil, List.set_cons_zero, List.set_cons_succ, if_true, if_false, ite_true, ite_false, List.nil_append, List.append_nil, List.cons_append, Option.bind_some, Option.map_some, Option.elim_some, List.map_cons, List.map_nil, List.replicate_succ, List.replicate_zero, Nat.reduceSub, Nat.reduceAdd, Nat.reduceLT, Nat.sub_self, Nat.zero_lt_succ, Nat.lt_add_one, Bool.false_eq_true, Bool.not_true, Bool.not_false, ei, hn, decide_true]
  · refine ⟨some (fr (p / q)), ?_⟩
    have hn : q.num ≠ 0 := fun z => h0 (Rat.num_eq_zero.mp z)
    have i1 : ixV m (fr q) (.int 0) = .ok (.int q.num) m := rfl
    have i2 : ixV m (fr q) (.int 1) = .ok (.int q.den) m := rfl
    have i3 : ixV m (fr p) (.int 0) = .ok (.int p.num) m := rfl
    have i4 : ixV m (fr p) (.int 1) = .ok (.int p.den) m := rfl
    have hz : (p.den : Int) * q.num ≠ 0 := Int.mul_ne_zero (den_ne p) hn
    have hl : runF fds W (n + 6) 22 [.int (p.num * q.den), .int (p.den * q.num)] m = .ok (fr (p / q)) m := by
      rw [lfr_ok (n := n + 5) hW hz ((hp.1.mul hq.2).mono (by decide)) ((hp.2.mul hq.1).mono (by decide)), div_divInt hn]
    have hd : Sz 130 (p / q) := by
      rw [div_divInt hn]
      exact divInt_sz hz ((hp.1.mul hq.2).mono (by decide)) ((hp.2.mul hq.1).mono (by decide))
    have e : p / q * q = p := Rat.div_mul_cancel h0
    simp only [b28s3, n_bind, n_bindS, n_go, n_some, n_none, n_nox, n_var, n_gl, n_lit, n_bin, n_neg, n_not, n_cmp, n_chn, n_chnT, n_chnF, n_and, n_or, n_ite, n_call, n_bi, n_biq, n_ix, n_sl, n_srev, n_tup, n_lst, n_lstQ, n_comp, n_compQ, n_nil, n_nilO, n_cons, n_star, n_seqI, n_rg1, n_rg2, n_zip, n_enum, n_varQ, n_callQ, n_ixQ, n_slQ, n_srevQ, n_glQ, n_tupQ, n_binQ, n_biQ, n_biqQ, n_iteQ, n_litO, n_varO, n_binO, v_add, v_sub, v_mul, v_fdiv, v_mod, v_pow, v_adds, v_addt, v_lt, v_le, v_gt, v_ge, v_eq, v_ne, v_eqt, v_net, v_eqs, v_nes, v_eql, v_trb, v_abs, v_min, v_max, v_int, v_intb, v_lent, v_isi, v_ixt, v_tup, v_lst, v_lstq, x_nil, x_seq, x_nx, x_rt, x_bk, x_ct, x_set, x_setK, x_asg, x_asgK, x_par, x_parK, x_sub, x_subK, x_aug, x_augK, x_drop, x_ite, x_whl, x_for, x_ret, x_retN, x_brk, x_cont, x_pass, x_tru, x_wh, x_lnx, x_lct, x_lbk, x_lrt, x_turn, x_putn, x_putt, x_puts0, x_puts, x_ps0, x_ps, x_forv, x_fort, x_forl0, x_forl, x_cF, x_cv, x_ct', x_cl0, x_cl, x_t0, x_t1, x_w0, x_w, x_el, v_allv, v_allt, v_srct, v_sall, v_stup, v_nilB, v_rng1, Option.join_some, List.getElem?_cons_zero, List.getElem?_cons_succ, List.length_cons, List.length_nil, List.set_cons_zero, List.set_cons_succ, if_true, if_false, ite_true, ite_false, List.nil_append, List.append_nil, List.cons_append, Option.bind_some, Option.map_some, Option.elim_some, List.map_cons, List.map_nil, List.replicate_succ, List.replicate_zero, Nat.reduceSub, Nat.reduceAdd, Nat.reduceLT, Nat.sub_self, Nat.zero_lt_succ, Nat.lt_add_one, Bool.false_eq_true, Bool.not_true, Bool.not_false, i1, i2, i3, i4, decide_eq_false hn, hp.1.mulOk hq.2 (show 65 + 65 ≤ 134217000 by decide), hp.2.mulOk hq.1 (show 65 + 65 ≤ 134217000 by decide), hl,
      over_ok (n := n + 2) hW (sz3 hp) (sz3 hq) h0, repr_fr (hd.mono (show 130 ≤ 1900 by decide)), decide_true, times_ok (n := n + 2) hW (sz3 hd) (sz3 hq), e, ne_fr]
theorem r4 (hp : Sz 65 p) (hq : Sz 65 q) : ex (runF fds W (n + 6)) W b28s4 [some (.loc l), some (fr p), some (fr q), some (fr r), v4, v5, v6, v7, v8, v9, v10, v11, v12, v13] m =
    .ok (.nx [some (.loc l), some (fr p), some (fr q), some (fr r), v4, v5, some (.int (p.num * q.den)), some (.int (q.num * p.den)), v8, v9, v10, v11, v12, v13]) m := by
  have i1 : ixV m (fr q) (.int 0) = .ok (.int q.num) m := rfl
  have i2 : ixV m (fr q) (.int 1) = .ok (.int q.den) m := rfl
  have i3 : ixV m (fr p) (.int 0) = .ok (.int p.num) m := rfl
  have i4 : ixV m (fr p) (.int 1) = .ok (.int p.den) m := rfl
  simp only [b28s4, n_bind, n_bindS, n_go, n_some, n_none, n_nox, n_var, n_gl, n_lit, n_bin, n_neg, n_not, n_cmp, n_chn, n_chnT, n_chnF, n_and, n_or, n_ite, n_call, n_bi, n_biq, n_ix, n_sl, n_srev, n_tup, n_lst, n_lstQ, n_comp, n_compQ, n_nil, n_nilO, n_cons, n_star, n_seqI, n_rg1, n_rg2, n_zip, n_enum, n_varQ, n_callQ, n_ixQ, n_slQ, n_srevQ, n_glQ, n_tupQ, n_binQ, n_biQ, n_biqQ, n_iteQ, n_litO, n_varO, n_binO, v_add, v_sub, v_mul, v_fdiv, v_mod, v_pow, v_adds, v_addt, v_lt, v_le, v_gt, v_ge, v_eq, v_ne, v_eqt, v_net, v_eqs, v_nes, v_eql, v_trb, v_abs, v_min, v_max, v_int, v_intb, v_lent, v_isi, v_ixt, v_tup, v_lst, v_lstq, x_nil, x_seq, x_nx, x_rt, x_bk, x_ct, x_set, x_setK, x_asg, x_asgK, x_par, x_parK, x_sub, x_subK, x_aug, x_augK, x_drop, x_ite, x_whl, x_for, x_ret, x_retN, x_brk, x_cont, x_pass, x_tru, x_wh, x_lnx, x_lct, x_lbk, x_lrt, x_turn, x_putn, x_putt, x_puts0, x_puts, x_ps0, x_ps, x_forv, x_fort, x_forl0, x_forl, x_cF, x_cv, x_ct', x_cl0, x_cl, x_t0, x_t1, x_w0, x_w, x_el, v_allv, v_allt, v_srct, v_sall, v_stup, v_nilB, v_rng1, Option.join_some, List.getElem?_cons_zero, List.getElem?_cons_succ, List.length_cons, List.length_nil, List.set_cons_zero, List.set_cons_succ, if_true, if_false, ite_true, ite_false, List.nil_append, List.append_nil, List.cons_append, Option.bind_some, Option.map_some, Option.elim_some, List.map_cons, List.map_nil, List.replicate_succ, List.replicate_zero, Nat.reduceSub, Nat.reduceAdd, Nat.reduceLT, Nat.sub_self, Nat.zero_lt_succ, Nat.lt_add_one, Bool.false_eq_true, Bool.not_true, Bool.not_false, i1, i2, i3, i4, hp.1.mulOk hq.2 (show 65 + 65 ≤ 134217000 by decide), hq.1.mulOk hp.2 (show 65 + 65 ≤ 134217000 by decide)]
theorem r5 (hW : 2 ^ 8000 ≤ W) (hp : Sz 65 p) (hq : Sz 65 q) : ex (runF fds W (n + 6)) W b28s5 [some (.loc l), some (fr p), some (fr q), some (fr r), v4, v5, some (.int (p.num * q.den)), some (.int (q.num * p.den)), v8, v9, v10, v11, v12, v13] m =
    .ok (.nx [some (.loc l), some (fr p), some (fr q), some (fr r), v4, v5, some (.int (p.num * q.den)), some (.int (q.num * p.den)), v8, v9, v10, v11, v12, v13]) m := by
  have e1 := compd_ok (W := W) (n := n + 2) (m := m) hW (sz3 hp) (sz3 hq)
  have e2 := compd_ok (W := W) (n := n + 2) (m := m) hW (sz3 hp) (sz3 hp)
  have z : cmpI p p = 0 := by unfold cmpI; simp
  have ec : cmpI p q = (if decide (q.num * p.den < p.num * q.den) = true then 1 else 0) - (if decide (p.num * q.den < q.num * p.den) = true then 1 else 0) := by
    unfold cmpI; simp
  rw [z] at e2
  simp only [b28s5, n_bind, n_bindS, n_go, n_some, n_none, n_nox, n_var, n_gl, n_lit, n_bin, n_neg, n_not, n_cmp, n_chn, n_chnT, n_chnF, n_and, n_or, n_ite, n_call, n_bi, n_biq, n_ix, n_sl, n_srev, n_tup, n_lst, n_lstQ, n_comp, n_compQ, n_nil, n_nilO, n_cons, n_star, n_seqI, n_rg1, n_rg2, n_zip, n_enum, n_varQ, n_callQ, n_ixQ, n_slQ, n_srevQ, n_glQ, n_tupQ, n_binQ, n_biQ, n_biqQ, n_iteQ, n_litO, n_varO, n_binO, v_add, v_sub, v_mul, v_fdiv, v_mod, v_pow, v_adds, v_addt, v_lt, v_le, v_gt, v_ge, v_eq, v_ne, v_eqt, v_net, v_eqs, v_nes, v_eql, v_trb, v_abs, v_min, v_max, v_int, v_intb, v_lent, v_isi, v_ixt, v_tup, v_lst, v_lstq, x_nil, x_seq, x_nx, x_rt, x_bk, x_ct, x_set, x_setK, x_asg, x_asgK, x_par, x_parK, x_sub, x_subK, x_aug, x_augK, x_drop, x_ite, x_whl, x_for, x_ret, x_retN, x_brk, x_cont, x_pass, x_tru, x_wh, x_lnx, x_lct, x_lbk, x_lrt, x_turn, x_putn, x_putt, x_puts0, x_puts, x_ps0, x_ps, x_forv, x_fort, x_forl0, x_forl, x_cF, x_cv, x_ct', x_cl0, x_cl, x_t0, x_t1, x_w0, x_w, x_el, v_allv, v_allt, v_srct, v_sall, v_stup, v_nilB, v_rng1, Option.join_some, List.getElem?_cons_zero, List.getElem?_cons_succ, List.length_cons, List.length_nil, List.set_cons_zero, List.set_cons_succ, if_true, if_false, ite_true, ite_false, List.nil_append, List.append_nil, List.cons_append, Option.bind_some, Option.map_some, Option.elim_some, List.map_cons, List.map_nil, List.replicate_succ, List.replicate_zero, Nat.reduceSub, Nat.reduceAdd, Nat.reduceLT, Nat.sub_self, Nat.zero_lt_succ, Nat.lt_add_one, Bool.false_eq_true, Bool.not_true, Bool.not_false, e1, e2, ec, decide_true]
theorem r6 (hW : 2 ^ 8000 ≤ W) (hp : Sz 65 p) (hq : Sz 65 q) (hr : Sz 65 r) : ex (runF fds W (n + 6)) W b28s6 [some (.loc l), some (fr p), some (fr q), some (fr r), v4, v5, v6, v7, v8, v9, v10, v11, v12, v13] m =
    .ok (.nx [some (.loc l), some (fr p), some (fr q), some (fr r), v4, v5, v6, v7, v8, v9, v10, v11, v12, v13]) m := by
  have e : (p + q) * r = p * r + q * r := Rat.add_mul _ _ _
  simp only [b28s6, n_bind, n_bindS, n_go, n_some, n_none, n_nox, n_var, n_gl, n_lit, n_bin, n_neg, n_not, n_cmp, n_chn, n_chnT, n_chnF, n_and, n_or, n_ite, n_call, n_bi, n_biq, n_ix, n_sl, n_srev, n_tup, n_lst, n_lstQ, n_comp, n_compQ, n_nil, n_nilO, n_cons, n_star, n_seqI, n_rg1, n_rg2, n_zip, n_enum, n_varQ, n_callQ, n_ixQ, n_slQ, n_srevQ, n_glQ, n_tupQ, n_binQ, n_biQ, n_biqQ, n_iteQ, n_litO, n_varO, n_binO, v_add, v_sub, v_mul, v_fdiv, v_mod, v_pow, v_adds, v_addt, v_lt, v_le, v_gt, v_ge, v_eq, v_ne, v_eqt, v_net, v_eqs, v_nes, v_eql, v_trb, v_abs, v_min, v_max, v_int, v_intb, v_lent, v_isi, v_ixt, v_tup, v_lst, v_lstq, x_nil, x_seq, x_nx, x_rt, x_bk, x_ct, x_set, x_setK, x_asg, x_asgK, x_par, x_parK, x_sub, x_subK, x_aug, x_augK, x_drop, x_ite, x_whl, x_for, x_ret, x_retN, x_brk, x_cont, x_pass, x_tru, x_wh, x_lnx, x_lct, x_lbk, x_lrt, x_turn, x_putn, x_putt, x_puts0, x_puts, x_ps0, x_ps, x_forv, x_fort, x_forl0, x_forl, x_cF, x_cv, x_ct', x_cl0, x_cl, x_t0, x_t1, x_w0, x_w, x_el, v_allv, v_allt, v_srct, v_sall, v_stup, v_nilB, v_rng1, Option.join_some, List.getElem?_cons_zero, List.getElem?_cons_succ, List.length_cons, List.length_nil, List.set_cons_zero, List.set_cons_succ, if_true, if_false, ite_true, ite_false, List.nil_append, List.append_nil, List.cons_append, Option.bind_some, Option.map_some, Option.elim_some, List.map_cons, List.map_nil, List.replicate_succ, List.replicate_zero, Nat.reduceSub, Nat.reduceAdd, Nat.reduceLT, Nat.sub_self, Nat.zero_lt_succ, Nat.lt_add_one, Bool.false_eq_true, Bool.not_true, Bool.not_false, plus_ok (n := n + 2) hW (sz3 hp) (sz3 hq), times_ok (n := n + 2) hW (sz3 (hp.add hq)) (sz3 hr), times_ok (n := n + 2) hW (sz3 hp) (sz3 hr), times_ok (n := n + 2) hW (sz3 hq) (sz3 hr), plus_ok (n := n + 2) hW (sz3 (hp.mul hr)) (sz3 (hq.mul hr)), e, ne_fr, decide_true]
end
end K21
set_option Elab.async false
set_option linter.all false
set_option maxRecDepth 100000
namespace K21
open PySem Ev
section
variable {W n : Nat} {m : M} {c l : Nat} {p q r : Rat} {v4 v5 v6 v7 v8 v9 v10 v11 v12 v13 x0 x1 x2 x3 : Option D}
theorem row_loop (hW : 2 ^ 8000 ≤ W) : ∀ (ds : List D) (c : Nat) (m : M) (acc : List Rat), c + 7 * ds.length ≤ 100000 → Dc c l m → (∀ x ∈ acc, Sz 65 x) → ∃ (rs : List Rat) (m' : M), rs.length = acc.length + ds.length ∧ (∀ x ∈ rs, Sz 65 x) ∧ Up (c + 7 * ds.length) l m m' ∧
    compL (turnC [("turn", 11)] (.nm 11) none (ev (runF fds W (n + 6)) W (.call "_law_drawn" 27 (.cons (.var 0) .nil) [])).v [some (.loc l), x0, x1, x2, v4, v5, v6, v7, v8, v9, v10, v11, v12, v13]) ds (acc.map fr) m = .ok (rs.map fr) m'
  | [], c, m, acc, _, h, hs => ⟨acc, m, by simp, hs, ⟨h, rfl, fun _ _ => rfl⟩, rfl⟩
  | d :: ds, c, m, acc, hc, h, hs => by
    simp only [List.length_cons] at hc
    obtain ⟨q, m1, e1, s1, u1⟩ := drawn_ok (n := n + 2) hW (by omega) h
    obtain ⟨rs, m2, hl, hr, u2, e2⟩ := row_loop hW ds (c + 7) m1 (acc ++ [q]) (by omega) u1.dc (fun x hx => by
      rcases List.mem_append.mp hx with z | z
      · exact hs x z
      · rw [List.mem_singleton.mp z]; exact s1)
    refine ⟨rs, m2, by rw [hl]; simp; omega, hr, ?_, ?_⟩
    · have := u1.trans u2
      rw [List.length_cons, show c + 7 * (ds.length + 1) = c + 7 + 7 * ds.length by omega]
      exact this
    · rw [x_cl]
      simp only [n_bind, n_bindS, n_go, n_some, n_none, n_nox, n_var, n_gl, n_lit, n_bin, n_neg, n_not, n_cmp, n_chn, n_chnT, n_chnF, n_and, n_or, n_ite, n_call, n_bi, n_biq, n_ix, n_sl, n_srev, n_tup, n_lst, n_lstQ, n_comp, n_compQ, n_nil, n_nilO, n_cons, n_star, n_seqI, n_rg1, n_rg2, n_zip, n_enum, n_varQ, n_callQ, n_ixQ, n_slQ, n_srevQ, n_glQ, n_tupQ, n_binQ, n_biQ, n_biqQ, n_iteQ, n_litO, n_varO, n_binO, v_add, v_sub, v_mul, v_fdiv, v_mod, v_pow, v_adds, v_addt, v_lt, v_le, v_gt, v_ge, v_eq, v_ne, v_eqt, v_net, v_eqs, v_nes, v_eql, v_trb, v_abs, v_min, v_max, v_int, v_intb, v_lent, v_isi, v_ixt, v_tup, v_lst, v_lstq, x_nil, x_seq, x_nx, x_rt, x_bk, x_ct, x_set, x_setK, x_asg, x_asgK, x_par, x_parK, x_sub, x_subK, x_aug, x_augK, x_drop, x_ite, x_whl, x_for, x_ret, x_retN, x_brk, x_cont, x_pass, x_tru, x_wh, x_lnx, x_lct, x_lbk, x_lrt, x_turn, x_putn, x_putt, x_puts0, x_puts, x_ps0, x_ps, x_forv, x_fort, x_forl0, x_forl, x_cF, x_cv, x_ct', x_cl0, x_cl, x_t0, x_t1, x_w0, x_w, x_el, v_allv, v_allt, v_srct, v_sall, v_stup, v_nilB, v_rng1, Option.join_some, List.getElem?_cons_zero, List.getElem?_cons_succ, List.length_cons, List.length_nil, List.set_cons_zero, List.set_cons_succ, if_true, if_false, ite_true, ite_false, List.nil_append, List.append_nil, List.cons_append, Option.bind_some, Option.map_some, Option.elim_some, List.map_cons, List.map_nil, List.replicate_succ, List.replicate_zero, Nat.reduceSub, Nat.reduceAdd, Nat.reduceLT, Nat.sub_self, Nat.zero_lt_succ, Nat.lt_add_one, Bool.false_eq_true, Bool.not_true, Bool.not_false, e1]
      rw [← e2]
      simp only [List.map_append, List.map_cons, List.map_nil]
theorem r7 (hW : 2 ^ 8000 ≤ W) (hc : c + 50 ≤ 100000) (h : Dc c l m) : ∃ (rs : List Rat) (m' : M), rs.length ≤ 6 ∧ (∀ x ∈ rs, Sz 65 x) ∧ Up (c + 43) l m m' ∧
    ex (runF fds W (n + 6)) W b28s7 [some (.loc l), x0, x1, x2, v4, v5, v6, v7, v8, v9, v10, v11, v12, v13] m = .ok (.nx [some (.loc l), x0, x1, x2, v4, some (fr 0), v6, v7, some (.loc m'.length), v9, v10, v11, v12, v13]) (m' ++ [.lst (rs.map fr)]) := by
  obtain ⟨k, m1, e1, k0, k1, u1⟩ := roll_ok (W := W) (n := n + 5) (k := 6) (by omega) h (by decide) (by decide)
  have hlen : (rangeD 0 k.toNat).length = k.toNat := by unfold rangeD; simp
  obtain ⟨rs, m2, hl, hr, u2, e2⟩ := row_loop (l := l) (n := n) (x0 := x0) (x1 := x1) (x2 := x2) (v4 := v4) (v5 := v5) (v6 := v6) (v7 := v7) (v8 := v8) (v9 := v9) (v10 := v10) (v11 := none) (v12 := v12) (v13 := v13) hW (rangeD 0 k.toNat) (c + 1) m1 [] (by omega) u1.dc (fun x hx => by cases hx)
  have ef : turnC [("turn", 11)] (.nm 11) none (ev (runF fds W (n + 6)) W (.call "_law_drawn" 27 (.cons (.var 0) .nil) [])).v [some (.loc l), x0, x1, x2, v4, v5, v6, v7, v8, v9, v10, v11, v12, v13] = turnC [("turn", 11)] (.nm 11) none (ev (runF fds W (n + 6)) W (.call "_law_drawn" 27 (.cons (.var 0) .nil) [])).v [some (.loc l), x0, x1, x2, v4, v5, v6, v7, v8, v9, v10, none, v12, v13] := rfl
  have hrl : rs.length ≤ 6 := by rw [hl, hlen]; simp; omega
  refine ⟨rs, m2, hrl, hr, ?_, ?_⟩
  · have u := u1.trans u2
    exact ⟨u.dc.up (by omega), u.len, u.keep⟩
  · have hf : fits (rs.map fr).length = true := fits_ok (by simp; omega)
    have e0 : (D.tup [.int 0, .int 1]) = fr 0 := rfl
    rw [List.map_nil] at e2
    simp only [b28s7, n_bind, n_bindS, n_go, n_some, n_none, n_nox, n_var, n_gl, n_lit, n_bin, n_neg, n_not, n_cmp, n_chn, n_chnT, n_chnF, n_and, n_or, n_ite, n_call, n_bi, n_biq, n_ix, n_sl, n_srev, n_tup, n_lst, n_lstQ, n_comp, n_compQ, n_nil, n_nilO, n_cons, n_star, n_seqI, n_rg1, n_rg2, n_zip, n_enum, n_varQ, n_callQ, n_ixQ, n_slQ, n_srevQ, n_glQ, n_tupQ, n_binQ, n_biQ, n_biqQ, n_iteQ, n_litO, n_varO, n_binO, v_add, v_sub, v_mul, v_fdiv, v_mod, v_pow, v_adds, v_addt, v_lt, v_le, v_gt, v_ge, v_eq, v_ne, v_eqt, v_net, v_eqs, v_nes, v_eql, v_trb, v_abs, v_min, v_max, v_int, v_intb, v_lent, v_isi, v_ixt, v_tup, v_lst, v_lstq, x_nil, x_seq, x_nx, x_rt, x_bk, x_ct, x_set, x_setK, x_asg, x_asgK, x_par, x_parK, x_sub, x_subK, x_aug, x_augK, x_drop, x_ite, x_whl, x_for, x_ret, x_retN, x_brk, x_cont, x_pass, x_tru, x_wh, x_lnx, x_lct, x_lbk, x_lrt, x_turn, x_putn, x_putt, x_puts0, x_puts, x_ps0, x_ps, x_forv, x_fort, x_forl0, x_forl, x_cF, x_cv, x_ct', x_cl0, x_cl, x_t0, x_t1, x_w0, x_w, x_el, v_allv, v_allt, v_srct, v_sall, v_stup, v_nilB, v_rng1, Option.join_some, List.getElem?_cons_zero, List.getElem?_cons_succ, List.length_cons, List.length_nil, List.set_cons_zero, List.set_cons_succ, if_true, if_false, ite_true, ite_false, List.nil_append, List.append_nil, List.cons_append, Option.bind_some, Option.map_some, Option.elim_some, List.map_cons, List.map_nil, List.replicate_succ, List.replicate_zero, Nat.reduceSub, Nat.reduceAdd, Nat.reduceLT, Nat.sub_self, Nat.zero_lt_succ, Nat.lt_add_one, Bool.false_eq_true, Bool.not_true, Bool.not_false, e1, rOk_small k0 (show k ≤ 1000 by omega)]
    rw [ef]
    simp only [e2, n_bind, n_bindS, n_go, n_some, n_none, n_nox, n_var, n_gl, n_lit, n_bin, n_neg, n_not, n_cmp, n_chn, n_chnT, n_chnF, n_and, n_or, n_ite, n_call, n_bi, n_biq, n_ix, n_sl, n_srev, n_tup, n_lst, n_lstQ, n_comp, n_compQ, n_nil, n_nilO, n_cons, n_star, n_seqI, n_rg1, n_rg2, n_zip, n_enum, n_varQ, n_callQ, n_ixQ, n_slQ, n_srevQ, n_glQ, n_tupQ, n_binQ, n_biQ, n_biqQ, n_iteQ, n_litO, n_varO, n_binO, v_add, v_sub, v_mul, v_fdiv, v_mod, v_pow, v_adds, v_addt, v_lt, v_le, v_gt, v_ge, v_eq, v_ne, v_eqt, v_net, v_eqs, v_nes, v_eql, v_trb, v_abs, v_min, v_max, v_int, v_intb, v_lent, v_isi, v_ixt, v_tup, v_lst, v_lstq, x_nil, x_seq, x_nx, x_rt, x_bk, x_ct, x_set, x_setK, x_asg, x_asgK, x_par, x_parK, x_sub, x_subK, x_aug, x_augK, x_drop, x_ite, x_whl, x_for, x_ret, x_retN, x_brk, x_cont, x_pass, x_tru, x_wh, x_lnx, x_lct, x_lbk, x_lrt, x_turn, x_putn, x_putt, x_puts0, x_puts, x_ps0, x_ps, x_forv, x_fort, x_forl0, x_forl, x_cF, x_cv, x_ct', x_cl0, x_cl, x_t0, x_t1, x_w0, x_w, x_el, v_allv, v_allt, v_srct, v_sall, v_stup, v_nilB, v_rng1, Option.join_some, List.getElem?_cons_zero, List.getElem?_cons_succ, List.length_cons, List.length_nil, List.set_cons_zero, List.set_cons_succ, if_true, if_false, ite_true, ite_false, List.nil_append, List.append_nil, List.cons_append, Option.bind_some, Option.map_some, Option.elim_some, List.map_cons, List.map_nil, List.replicate_succ, List.replicate_zero, Nat.reduceSub, Nat.reduceAdd, Nat.reduceLT, Nat.sub_self, Nat.zero_lt_succ, Nat.lt_add_one, Bool.false_eq_true, Bool.not_true, Bool.not_false, hf, f2, e0]
/-- the list at L is walked; nothing is changed; each turn may be told of its own -/
theorem forN_at {L : Nat} {tn : D → Sl → M → Ev.R Fl} {m : M} {ds : List D} (hL : m[L]? = some (.lst ds)) {P : Nat → Sl → Prop} {k : Nat} {σ : Sl} (hk : ds.length < k) (h0 : P 0 σ)
    (ht : ∀ (i : Nat) (d : D) (σ : Sl), ds[i]? = some d → P i σ → ∃ σ', tn d σ m = .ok (.nx σ') m ∧ P (i + 1) σ') : ∃ σ', forN (.at_ L) tn k 0 σ m = .ok (.nx σ') m ∧ P ds.length σ' := by
  have it : ∀ i, i ≤ ds.length → (Src.at_ L).item m i = some ds[i]? := fun i hi => by
    show (match m[L]? with
      | some (.lst ds) => at? ds i
      | some (.frz ds) => at? ds i
      | _ => none) = _
    rw [hL]; exact if_pos hi
  have go : ∀ (j k i : Nat) (σ : Sl), i + j = ds.length → j < k → P i σ → ∃ σ', forN (.at_ L) tn k i σ m = .ok (.nx σ') m ∧ P ds.length σ' := by
    intro j
    induction j with
    | zero =>
      intro k i σ e hk hp
      obtain ⟨k, rfl⟩ : ∃ k', k = k' + 1 := ⟨k - 1, by omega⟩
      have hi : i = ds.length := by omega
      refine ⟨σ, ?_, hi ▸ hp⟩
      simp only [forN]
      rw [it i (by omega), hi, List.getElem?_eq_none (Nat.le_refl _)]
    | succ j ih =>
      intro k i σ e hk hp
      obtain ⟨k, rfl⟩ : ∃ k', k = k' + 1 := ⟨k - 1, by omega⟩
      have hlt : i < ds.length := by omega
      obtain ⟨σ1, e1, p1⟩ := ht i ds[i] σ (List.getElem?_eq_getElem hlt) hp
      obtain ⟨σ2, e2, p2⟩ := ih k (i + 1) σ1 (by omega) (by omega) p1
      refine ⟨σ2, ?_, p2⟩
      simp only [forN]
      rw [it i (by omega), List.getElem?_eq_getElem hlt]
      show (tn ds[i] σ m).bind (loopK (forN (.at_ L) tn k (i + 1))) = _
      rw [e1]
      exact e2
  exact go ds.length k 0 σ (by omega) hk h0
theorem sum_sz : ∀ (qs : List Rat) (k : Nat) (acc : Rat), Sz k acc → (∀ q ∈ qs, Sz 65 q) → Sz (k + 66 * qs.length) (sumR acc qs)
  | [], k, acc, h, _ => h
  | q :: qs, k, acc, h, hq => by
    have := sum_sz qs (k + 66) (acc + q) ((h.add (hq q List.mem_cons_self)).mono (by omega)) fun r hr => hq r (List.mem_cons_of_mem _ hr)
    rw [List.length_cons]
    exact this.mono (by omega)
theorem r8 (hW : 2 ^ 8000 ≤ W) {rs : List Rat} {L : Nat} (hL : m[L]? = some (.lst (rs.map fr))) (hs : ∀ x ∈ rs, Sz 65 x) (hl : rs.length ≤ 6) : ∃ y, ex (runF fds W (n + 6)) W b28s8 [some (.loc l), x0, x1, x2, v4, some (fr 0), v6, v7, some (.loc L), v9, v10, v11, v12, v13] m =
    .ok (.nx [some (.loc l), x0, x1, x2, v4, some (fr (sumR 0 rs)), v6, v7, some (.loc L), y, v10, v11, v12, v13]) m := by
  have hw : (rs.map fr).length < W := by
    have : (2 : Nat) ^ 3 ≤ 2 ^ 8000 := Nat.pow_le_pow_right (by decide) (by decide)
    rw [List.length_map]; omega
  obtain ⟨σ', e, y, rfl⟩ := forN_at (tn := turnF (.nm 9) (ex (runF fds W (n + 6)) W (.seq (.set 5 (.call "_law_plus" 23 (.cons (.var 5) (.cons (.var 9) .nil)) [])) .nil))) hL
    (P := fun i σ => ∃ y, σ = [some (.loc l), x0, x1, x2, v4, some (fr (sumR 0 (rs.take i))), v6, v7, some (.loc L), y, v10, v11, v12, v13]) (σ := [some (.loc l), x0, x1, x2, v4, some (fr 0), v6, v7, some (.loc L), v9, v10, v11, v12, v13]) hw ⟨v9, rfl⟩ (by
      rintro i d σ hd ⟨y, rfl⟩
      rw [List.getElem?_map] at hd
      cases hq : rs[i]? with
      | none => rw [hq] at hd; cases hd
      | some q =>
        rw [hq] at hd
        have hd : d = fr q := by simpa using hd.symm
        subst hd
        have hi : i < rs.length := (List.getElem?_eq_some_iff.mp hq).1
        have s1 : Sz 3000 (sumR 0 (rs.take i)) := by
          have := sum_sz (rs.take i) 1 0 ⟨by decide, by decide⟩ fun x hx => hs x (List.mem_of_mem_take hx)
          refine this.mono ?_
          rw [List.length_take]; omega
        have es : sumR 0 (rs.take (i + 1)) = sumR 0 (rs.take i) + q := by
          unfold sumR
          rw [List.take_add_one, hq, List.foldl_append]; rfl
        refine ⟨_, ?_, some (fr q), by rw [es]⟩
        simp only [n_bind, n_bindS, n_go, n_some, n_none, n_nox, n_var, n_gl, n_lit, n_bin, n_neg, n_not, n_cmp, n_chn, n_chnT, n_chnF, n_and, n_or, n_ite, n_call, n_bi, n_biq, n_ix, n_sl, n_srev, n_tup, n_lst, n_lstQ, n_comp, n_compQ, n_nil, n_nilO, n_cons, n_star, n_seqI, n_rg1, n_rg2, n_zip, n_enum, n_varQ, n_callQ, n_ixQ, n_slQ, n_srevQ, n_glQ, n_tupQ, n_binQ, n_biQ, n_biqQ, n_iteQ, n_litO, n_varO, n_binO, v_add, v_sub, v_mul, v_fdiv, v_mod, v_pow, v_adds, v_addt, v_lt, v_le, v_gt, v_ge, v_eq, v_ne, v_eqt, v_net, v_eqs, v_nes, v_eql, v_trb, v_abs, v_min, v_max, v_int, v_intb, v_lent, v_isi, v_ixt, v_tup, v_lst, v_lstq, x_nil, x_seq, x_nx, x_rt, x_bk, x_ct, x_set, x_setK, x_asg, x_asgK, x_par, x_parK, x_sub, x_subK, x_aug, x_augK, x_drop, x_ite, x_whl, x_for, x_ret, x_retN, x_brk, x_cont, x_pass, x_tru, x_wh, x_lnx, x_lct, x_lbk, x_lrt, x_turn, x_putn, x_putt, x_puts0, x_puts, x_ps0, x_ps, x_forv, x_fort, x_forl0, x_forl, x_cF, x_cv, x_ct', x_cl0, x_cl, x_t0, x_t1, x_w0, x_w, x_el, v_allv, v_allt, v_srct, v_sall, v_stup, v_nilB, v_rng1, Option.join_some, List.getElem?_cons_zero, List.getElem?_cons_succ, List.length_cons, List.length_nil, List.set_cons_zero, List.set_cons_succ, if_true, if_false, ite_true, ite_false, List.nil_append, List.append_nil, List.cons_append, Option.bind_some, Option.map_some, Option.elim_some, List.map_cons, List.map_nil, List.replicate_succ, List.replicate_zero, Nat.reduceSub, Nat.reduceAdd, Nat.reduceLT, Nat.sub_self, Nat.zero_lt_succ, Nat.lt_add_one, Bool.false_eq_true, Bool.not_true, Bool.not_false, lplus_ok (n := n + 4) hW s1 (sz3 (hs q (List.mem_of_getElem? hq)))])
  refine ⟨y, ?_⟩
  have hsrc : srcOf m (.loc L) = some (.at_ L) := by unfold srcOf; dsimp only; rw [hL]
  have hfor : ∀ tn σ, forS W (.at_ L) tn σ m = forN (.at_ L) tn W 0 σ m := fun _ _ => rfl
  rw [List.length_map, List.take_length] at e
  simp only [b28s8, n_bind, n_bindS, n_go, n_some, n_none, n_nox, n_var, n_gl, n_lit, n_bin, n_neg, n_not, n_cmp, n_chn, n_chnT, n_chnF, n_and, n_or, n_ite, n_call, n_bi, n_biq, n_ix, n_sl, n_srev, n_tup, n_lst, n_lstQ, n_comp, n_compQ, n_nil, n_nilO, n_cons, n_star, n_seqI, n_rg1, n_rg2, n_zip, n_enum, n_varQ, n_callQ, n_ixQ, n_slQ, n_srevQ, n_glQ, n_tupQ, n_binQ, n_biQ, n_biqQ, n_iteQ, n_litO, n_varO, n_binO, v_add, v_sub, v_mul, v_fdiv, v_mod, v_pow, v_adds, v_addt, v_lt, v_le, v_gt, v_ge, v_eq, v_ne, v_eqt, v_net, v_eqs, v_nes, v_eql, v_trb, v_abs, v_min, v_max, v_int, v_intb, v_lent, v_isi, v_ixt, v_tup, v_lst, v_lstq, x_nil, x_seq, x_nx, x_rt, x_bk, x_ct, x_set, x_setK, x_asg, x_asgK, x_par, x_parK, x_sub, x_subK, x_aug, x_augK, x_drop, x_ite, x_whl, x_for, x_ret, x_retN, x_brk, x_cont, x_pass, x_tru, x_wh, x_lnx, x_lct, x_lbk, x_lrt, x_turn, x_putn, x_putt, x_puts0, x_puts, x_ps0, x_ps, x_forv, x_fort, x_forl0, x_forl, x_cF, x_cv, x_ct', x_cl0, x_cl, x_t0, x_t1, x_w0, x_w, x_el, v_allv, v_allt, v_srct, v_sall, v_stup, v_nilB, v_rng1, Option.join_some, List.getElem?_cons_zero, List.getElem?_cons_succ, List.length_cons, List.length_nil, List.set_cons_zero, List.set_cons_succ, if_true, if_false, ite_true, ite_false, List.nil_append, List.append_nil, List.cons_append, Option.bind_some, Option.map_some, Option.elim_some, List.map_cons, List.map_nil, List.replicate_succ, List.replicate_zero, Nat.reduceSub, Nat.reduceAdd, Nat.reduceLT, Nat.sub_self, Nat.zero_lt_succ, Nat.lt_add_one, Bool.false_eq_true, Bool.not_true, Bool.not_false, hsrc, hfor, e]
theorem sumR_cons (q acc : Rat) (qs : List Rat) : sumR (acc + q) qs = sumR acc qs + q := by
  induction qs generalizing acc with
  | nil => rfl
  | cons r qs ih =>
    show sumR (acc + q + r) qs = sumR (acc + r) qs + q
    rw [← ih, Rat.add_assoc, Rat.add_comm q r, ← Rat.add_assoc]
theorem sumR_rev (qs : List Rat) : sumR 0 qs.reverse = sumR 0 qs := by
  induction qs with
  | nil => rfl
  | cons q qs ih =>
    rw [List.reverse_cons]
    have e : sumR 0 (qs.reverse ++ [q]) = sumR 0 qs.reverse + q := by unfold sumR; rw [List.foldl_append]; rfl
    rw [e, ih, ← sumR_cons]
    show sumR (0 + q) qs = sumR 0 (q :: qs)
    rfl
theorem r9 (hW : 2 ^ 8000 ≤ W) {rs : List Rat} {L : Nat} (hL : m[L]? = some (.lst (rs.map fr))) (hs : ∀ x ∈ rs, Sz 65 x) (hl : rs.length ≤ 6) : ex (runF fds W (n + 6)) W b28s9 [some (.loc l), x0, x1, x2, v4, some (fr (sumR 0 rs)), v6, v7, some (.loc L), v9, v10, v11, v12, v13] m =
    .ok (.nx [some (.loc l), x0, x1, x2, v4, some (fr (sumR 0 rs)), v6, v7, some (.loc L), v9, v10, v11, v12, v13]) (m ++ [.lst (rs.reverse.map fr)]) := by
  have hsrc : ∀ {m : M} {k : Nat} {ds : List D}, m[k]? = some (.lst ds) → srcOf m (.loc k) = some (.at_ k) ∧ (Src.at_ k).all m = some (true, ds) := fun {m k ds} h => by
    constructor
    · unfold srcOf; dsimp only; rw [h]
    · unfold Src.all; dsimp only; rw [h]
  have h1 := hsrc hL
  have h2 := hsrc (m := m ++ [.lst (rs.reverse.map fr)]) (k := m.length) app_last
  have s1 : ∀ q ∈ rs, Sz 300 q := fun q h => (hs q h).mono (by decide)
  have s2 : ∀ q ∈ rs.reverse, Sz 300 q := fun q h => s1 q (List.mem_reverse.mp h)
  have e1 := total_ok (W := W) (n := n + 1) (m := m) hW s1 (by omega)
  have e2 := total_ok (W := W) (n := n + 1) (m := m ++ [.lst (rs.reverse.map fr)]) hW s2 (by simpa using (by omega : rs.length ≤ 9))
  have er : revV m (.loc L) = .ok (.loc m.length) (m ++ [.lst (rs.reverse.map fr)]) := by
    unfold revV; dsimp only; rw [hL, List.map_reverse]
  rw [sumR_rev] at e2
  simp only [b28s9, n_bind, n_bindS, n_go, n_some, n_none, n_nox, n_var, n_gl, n_lit, n_bin, n_neg, n_not, n_cmp, n_chn, n_chnT, n_chnF, n_and, n_or, n_ite, n_call, n_bi, n_biq, n_ix, n_sl, n_srev, n_tup, n_lst, n_lstQ, n_comp, n_compQ, n_nil, n_nilO, n_cons, n_star, n_seqI, n_rg1, n_rg2, n_zip, n_enum, n_varQ, n_callQ, n_ixQ, n_slQ, n_srevQ, n_glQ, n_tupQ, n_binQ, n_biQ, n_biqQ, n_iteQ, n_litO, n_varO, n_binO, v_add, v_sub, v_mul, v_fdiv, v_mod, v_pow, v_adds, v_addt, v_lt, v_le, v_gt, v_ge, v_eq, v_ne, v_eqt, v_net, v_eqs, v_nes, v_eql, v_trb, v_abs, v_min, v_max, v_int, v_intb, v_lent, v_isi, v_ixt, v_tup, v_lst, v_lstq, x_nil, x_seq, x_nx, x_rt, x_bk, x_ct, x_set, x_setK, x_asg, x_asgK, x_par, x_parK, x_sub, x_subK, x_aug, x_augK, x_drop, x_ite, x_whl, x_for, x_ret, x_retN, x_brk, x_cont, x_pass, x_tru, x_wh, x_lnx, x_lct, x_lbk, x_lrt, x_turn, x_putn, x_putt, x_puts0, x_puts, x_ps0, x_ps, x_forv, x_fort, x_forl0, x_forl, x_cF, x_cv, x_ct', x_cl0, x_cl, x_t0, x_t1, x_w0, x_w, x_el, v_allv, v_allt, v_srct, v_sall, v_stup, v_nilB, v_rng1, Option.join_some, List.getElem?_cons_zero, List.getElem?_cons_succ, List.length_cons, List.length_nil, List.set_cons_zero, List.set_cons_succ, if_true, if_false, ite_true, ite_false, List.nil_append, List.append_nil, List.cons_append, Option.bind_some, Option.map_some, Option.elim_some, List.map_cons, List.map_nil, List.replicate_succ, List.replicate_zero, Nat.reduceSub, Nat.reduceAdd, Nat.reduceLT, Nat.sub_self, Nat.zero_lt_succ, Nat.lt_add_one, Bool.false_eq_true, Bool.not_true, Bool.not_false, h1.1, h1.2, er, h2.1, h2.2, e1, e2, ne_fr, decide_true]
theorem r10 (hc : c + 50 ≤ 100000) (h : Dc c l m) : ∃ (k : Int) (m' : M), 0 ≤ k ∧ k ≤ 7 ∧ Up (c + 1) l m m' ∧ ex (runF fds W (n + 6)) W b28s10 [some (.loc l), x0, x1, x2, v4, v5, v6, v7, v8, v9, v10, v11, v12, v13] m =
    .ok (.nx [some (.loc l), x0, x1, x2, v4, some (fr 1), v6, v7, v8, v9, some (.int k), v11, v12, v13]) m' := by
  obtain ⟨k, m1, e1, k0, k1, u1⟩ := roll_ok (W := W) (n := n + 5) (k := 7) (by omega) h (by decide) (by decide)
  have e0 : (D.tup [.int 1, .int 1]) = fr 1 := rfl
  refine ⟨k, m1, k0, by omega, u1, ?_⟩
  simp only [b28s10, n_bind, n_bindS, n_go, n_some, n_none, n_nox, n_var, n_gl, n_lit, n_bin, n_neg, n_not, n_cmp, n_chn, n_chnT, n_chnF, n_and, n_or, n_ite, n_call, n_bi, n_biq, n_ix, n_sl, n_srev, n_tup, n_lst, n_lstQ, n_comp, n_compQ, n_nil, n_nilO, n_cons, n_star, n_seqI, n_rg1, n_rg2, n_zip, n_enum, n_varQ, n_callQ, n_ixQ, n_slQ, n_srevQ, n_glQ, n_tupQ, n_binQ, n_biQ, n_biqQ, n_iteQ, n_litO, n_varO, n_binO, v_add, v_sub, v_mul, v_fdiv, v_mod, v_pow, v_adds, v_addt, v_lt, v_le, v_gt, v_ge, v_eq, v_ne, v_eqt, v_net, v_eqs, v_nes, v_eql, v_trb, v_abs, v_min, v_max, v_int, v_intb, v_lent, v_isi, v_ixt, v_tup, v_lst, v_lstq, x_nil, x_seq, x_nx, x_rt, x_bk, x_ct, x_set, x_setK, x_asg, x_asgK, x_par, x_parK, x_sub, x_subK, x_aug, x_augK, x_drop, x_ite, x_whl, x_for, x_ret, x_retN, x_brk, x_cont, x_pass, x_tru, x_wh, x_lnx, x_lct, x_lbk, x_lrt, x_turn, x_putn, x_putt, x_puts0, x_puts, x_ps0, x_ps, x_forv, x_fort, x_forl0, x_forl, x_cF, x_cv, x_ct', x_cl0, x_cl, x_t0, x_t1, x_w0, x_w, x_el, v_allv, v_allt, v_srct, v_sall, v_stup, v_nilB, v_rng1, Option.join_some, List.getElem?_cons_zero, List.getElem?_cons_succ, List.length_cons, List.length_nil, List.set_cons_zero, List.set_cons_succ, if_true, if_false, ite_true, ite_false, List.nil_append, List.append_nil, List.cons_append, Option.bind_some, Option.map_some, Option.elim_some, List.map_cons, List.map_nil, List.replicate_succ, List.replicate_zero, Nat.reduceSub, Nat.reduceAdd, Nat.reduceLT, Nat.sub_self, Nat.zero_lt_succ, Nat.lt_add_one, Bool.false_eq_true, Bool.not_true, Bool.not_false, e1, f2, e0]
theorem pow_sz {q : Rat} {s : Nat} (hq : Sz s q) : ∀ (k a : Nat) (acc : Rat), Sz a acc → Sz (a + s * k) (powR q acc k)
  | 0, a, acc, h => h
  | k + 1, a, acc, h => by
    have := pow_sz hq k (a + s) (acc * q) (h.mul hq)
    exact this.mono (by rw [Nat.mul_add]; omega)
theorem lpow_loop (hW : 2 ^ 8000 ≤ W) (hp : Sz 65 p) : ∀ (ds : List D) (a : Nat) (acc : Rat) (w : Option D), Sz a acc → a + 65 * ds.length ≤ 3000 → ∃ z,
    forL (turnF (.nm 11) (ex (runF fds W (n + 6)) W (.seq (.set 5 (.call "_law_times" 24 (.cons (.var 5) (.cons (.var 1) .nil)) [])) .nil))) ds [x0, some (fr p), x1, x2, v4, some (fr acc), v6, v7, v8, v9, v10, w, v12, v13] m =
      .ok (.nx [x0, some (fr p), x1, x2, v4, some (fr (powR p acc ds.length)), v6, v7, v8, v9, v10, z, v12, v13]) m
  | [], a, acc, w, _, _ => ⟨w, rfl⟩
  | d :: ds, a, acc, w, h, hl => by
    rw [List.length_cons, Nat.mul_add] at hl
    obtain ⟨z, e⟩ := lpow_loop hW hp ds (a + 65) (acc * p) (some d) (h.mul hp) (by omega)
    refine ⟨z, ?_⟩
    rw [x_forl]
    simp only [n_bind, n_bindS, n_go, n_some, n_none, n_nox, n_var, n_gl, n_lit, n_bin, n_neg, n_not, n_cmp, n_chn, n_chnT, n_chnF, n_and, n_or, n_ite, n_call, n_bi, n_biq, n_ix, n_sl, n_srev, n_tup, n_lst, n_lstQ, n_comp, n_compQ, n_nil, n_nilO, n_cons, n_star, n_seqI, n_rg1, n_rg2, n_zip, n_enum, n_varQ, n_callQ, n_ixQ, n_slQ, n_srevQ, n_glQ, n_tupQ, n_binQ, n_biQ, n_biqQ, n_iteQ, n_litO, n_varO, n_binO, v_add, v_sub, v_mul, v_fdiv, v_mod, v_pow, v_adds, v_addt, v_lt, v_le, v_gt, v_ge, v_eq, v_ne, v_eqt, v_net, v_eqs, v_nes, v_eql, v_trb, v_abs, v_min, v_max, v_int, v_intb, v_lent, v_isi, v_ixt, v_tup, v_lst, v_lstq, x_nil, x_seq, x_nx, x_rt, x_bk, x_ct, x_set, x_setK, x_asg, x_asgK, x_par, x_parK, x_sub, x_subK, x_aug, x_augK, x_drop, x_ite, x_whl, x_for, x_ret, x_retN, x_brk, x_cont, x_pass, x_tru, x_wh, x_lnx, x_lct, x_lbk, x_lrt, x_turn, x_putn, x_putt, x_puts0, x_puts, x_ps0, x_ps, x_forv, x_fort, x_forl0, x_forl, x_cF, x_cv, x_ct', x_cl0, x_cl, x_t0, x_t1, x_w0, x_w, x_el, v_allv, v_allt, v_srct, v_sall, v_stup, v_nilB, v_rng1, Option.join_some, List.getElem?_cons_zero, List.getElem?_cons_succ, List.length_cons, List.length_nil, List.set_cons_zero, List.set_cons_succ, if_true, if_false, ite_true, ite_false, List.nil_append, List.append_nil, List.cons_append, Option.bind_some, Option.map_some, Option.elim_some, List.map_cons, List.map_nil, List.replicate_succ, List.replicate_zero, Nat.reduceSub, Nat.reduceAdd, Nat.reduceLT, Nat.sub_self, Nat.zero_lt_succ, Nat.lt_add_one, Bool.false_eq_true, Bool.not_true, Bool.not_false, ltimes_ok (n := n + 4) hW (h.mono (show a ≤ 3000 by omega)) (sz3 hp)]
    exact e
theorem r11 (hW : 2 ^ 8000 ≤ W) (hp : Sz 65 p) {k : Int} (k0 : 0 ≤ k) (k1 : k ≤ 7) : ∃ y, ex (runF fds W (n + 6)) W b28s11 [x0, some (fr p), x1, x2, v4, some (fr 1), v6, v7, v8, v9, some (.int k), v11, v12, v13] m =
    .ok (.nx [x0, some (fr p), x1, x2, v4, some (fr (powR p 1 k.toNat)), v6, v7, v8, v9, some (.int k), y, v12, v13]) m := by
  have hlen : (rangeD 0 k.toNat).length = k.toNat := by unfold rangeD; simp
  obtain ⟨z, e⟩ := lpow_loop (n := n) (m := m) (x0 := x0) (x1 := x1) (x2 := x2) (v4 := v4) (v6 := v6) (v7 := v7) (v8 := v8) (v9 := v9) (v10 := some (.int k)) (v12 := v12) (v13 := v13) hW hp (rangeD 0 k.toNat) 1 1 v11 ⟨by decide, by decide⟩ (by rw [hlen]; omega)
  rw [hlen] at e
  refine ⟨z, ?_⟩
  simp only [b28s11, n_bind, n_bindS, n_go, n_some, n_none, n_nox, n_var, n_gl, n_lit, n_bin, n_neg, n_not, n_cmp, n_chn, n_chnT, n_chnF, n_and, n_or, n_ite, n_call, n_bi, n_biq, n_ix, n_sl, n_srev, n_tup, n_lst, n_lstQ, n_comp, n_compQ, n_nil, n_nilO, n_cons, n_star, n_seqI, n_rg1, n_rg2, n_zip, n_enum, n_varQ, n_callQ, n_ixQ, n_slQ, n_srevQ, n_glQ, n_tupQ, n_binQ, n_biQ, n_biqQ, n_iteQ, n_litO, n_varO, n_binO, v_add, v_sub, v_mul, v_fdiv, v_mod, v_pow, v_adds, v_addt, v_lt, v_le, v_gt, v_ge, v_eq, v_ne, v_eqt, v_net, v_eqs, v_nes, v_eql, v_trb, v_abs, v_min, v_max, v_int, v_intb, v_lent, v_isi, v_ixt, v_tup, v_lst, v_lstq, x_nil, x_seq, x_nx, x_rt, x_bk, x_ct, x_set, x_setK, x_asg, x_asgK, x_par, x_parK, x_sub, x_subK, x_aug, x_augK, x_drop, x_ite, x_whl, x_for, x_ret, x_retN, x_brk, x_cont, x_pass, x_tru, x_wh, x_lnx, x_lct, x_lbk, x_lrt, x_turn, x_putn, x_putt, x_puts0, x_puts, x_ps0, x_ps, x_forv, x_fort, x_forl0, x_forl, x_cF, x_cv, x_ct', x_cl0, x_cl, x_t0, x_t1, x_w0, x_w, x_el, v_allv, v_allt, v_srct, v_sall, v_stup, v_nilB, v_rng1, Option.join_some, List.getElem?_cons_zero, List.getElem?_cons_succ, List.length_cons, List.length_nil, List.set_cons_zero, List.set_cons_succ, if_true, if_false, ite_true, ite_false, List.nil_append, List.append_nil, List.cons_append, Option.bind_some, Option.map_some, Option.elim_some, List.map_cons, List.map_nil, List.replicate_succ, List.replicate_zero, Nat.reduceSub, Nat.reduceAdd, Nat.reduceLT, Nat.sub_self, Nat.zero_lt_succ, Nat.lt_add_one, Bool.false_eq_true, Bool.not_true, Bool.not_false, rOk_small k0 (show k ≤ 1000 by omega), e]
theorem r12 (hW : 2 ^ 8000 ≤ W) (hp : Sz 65 p) {k : Int} (k0 : 0 ≤ k) (k1 : k ≤ 7) : ex (runF fds W (n + 6)) W b28s12 [x0, some (fr p), x1, x2, v4, some (fr (powR p 1 k.toNat)), v6, v7, v8, v9, some (.int k), v11, v12, v13] m =
    .ok (.nx [x0, some (fr p), x1, x2, v4, some (fr (powR p 1 k.toNat)), v6, v7, v8, v9, some (.int k), v11, v12, v13]) m := by
  have e0 : (D.tup [.int 1, .int 1]) = fr 1 := rfl
  have e1 := power_ok (W := W) (n := n + 2) (m := m) hW hp k0 (by omega) (by omega) (by decide)
  have e2 := power_ok (W := W) (n := n + 2) (m := m) (i := 0) hW hp (by decide) (by decide) (by decide) (by decide)
  have e3 : powR p 1 (0 : Int).toNat = 1 := rfl
  rw [e3] at e2
  simp only [b28s12, n_bind, n_bindS, n_go, n_some, n_none, n_nox, n_var, n_gl, n_lit, n_bin, n_neg, n_not, n_cmp, n_chn, n_chnT, n_chnF, n_and, n_or, n_ite, n_call, n_bi, n_biq, n_ix, n_sl, n_srev, n_tup, n_lst, n_lstQ, n_comp, n_compQ, n_nil, n_nilO, n_cons, n_star, n_seqI, n_rg1, n_rg2, n_zip, n_enum, n_varQ, n_callQ, n_ixQ, n_slQ, n_srevQ, n_glQ, n_tupQ, n_binQ, n_biQ, n_biqQ, n_iteQ, n_litO, n_varO, n_binO, v_add, v_sub, v_mul, v_fdiv, v_mod, v_pow, v_adds, v_addt, v_lt, v_le, v_gt, v_ge, v_eq, v_ne, v_eqt, v_net, v_eqs, v_nes, v_eql, v_trb, v_abs, v_min, v_max, v_int, v_intb, v_lent, v_isi, v_ixt, v_tup, v_lst, v_lstq, x_nil, x_seq, x_nx, x_rt, x_bk, x_ct, x_set, x_setK, x_asg, x_asgK, x_par, x_parK, x_sub, x_subK, x_aug, x_augK, x_drop, x_ite, x_whl, x_for, x_ret, x_retN, x_brk, x_cont, x_pass, x_tru, x_wh, x_lnx, x_lct, x_lbk, x_lrt, x_turn, x_putn, x_putt, x_puts0, x_puts, x_ps0, x_ps, x_forv, x_fort, x_forl0, x_forl, x_cF, x_cv, x_ct', x_cl0, x_cl, x_t0, x_t1, x_w0, x_w, x_el, v_allv, v_allt, v_srct, v_sall, v_stup, v_nilB, v_rng1, Option.join_some, List.getElem?_cons_zero, List.getElem?_cons_succ, List.length_cons, List.length_nil, List.set_cons_zero, List.set_cons_succ, if_true, if_false, ite_true, ite_false, List.nil_append, List.append_nil, List.cons_append, Option.bind_some, Option.map_some, Option.elim_some, List.map_cons, List.map_nil, List.replicate_succ, List.replicate_zero, Nat.reduceSub, Nat.reduceAdd, Nat.reduceLT, Nat.sub_self, Nat.zero_lt_succ, Nat.lt_add_one, Bool.false_eq_true, Bool.not_true, Bool.not_false, e1, e2, f2, e0, ne_fr, decide_true]
theorem r13 (hc : c + 50 ≤ 100000) (h : Dc c l m) : ∃ (t b : Int) (m1 m' : M), t.natAbs ≤ 10 ^ 19 ∧ b ≠ 0 ∧ b.natAbs ≤ 10 ^ 19 ∧ Dc (c + 7) l m' ∧ m.length ≤ m'.length ∧ (∀ k, k ≠ l → k < m.length → m'[k]? = m[k]?) ∧
    ex (runF fds W (n + 6)) W b28s13 [some (.loc l), x0, x1, x2, v4, v5, v6, v7, v8, v9, v10, v11, v12, v13] m =
    .ok (.nx [some (.loc l), x0, x1, x2, v4, v5, v6, v7, v8, v9, v10, v11, some (.int t), some (.int b)]) m' := by
  obtain ⟨v, m1, e1, v0, v1, u1⟩ := int_ok (W := W) (n := n + 3) (by omega) h
  obtain ⟨d, m2, hd, e2, u2⟩ := pick_ok (W := W) (n := n + 4) (ds := [.int 0, .int v]) (k := m1.length) (by omega) (u1.dc.app (o := .lst [.int 0, .int v]) rfl) (by have := u1.dc.lt; omega) app_last (by simp) (by simp)
  obtain ⟨t, rfl, ht⟩ : ∃ t : Int, d = .int t ∧ t.natAbs ≤ 10 ^ 19 := by
    simp only [List.mem_cons, List.not_mem_nil, or_false] at hd
    rcases hd with rfl | rfl
    · exact ⟨0, rfl, by decide⟩
    · exact ⟨v, rfl, v1⟩
  obtain ⟨b, m3, e3, b0, b1', u3⟩ := int_ok (W := W) (n := n + 3) (by omega) u2.dc
  have hlen : m3.length = m.length + 1 := by rw [u3.len, u2.len]; simp [u1.len]
  refine ⟨t, b, m1, m3, ht, b0, b1', u3.dc, by omega, fun k hk hlt => ?_, ?_⟩
  · rw [u3.keep k hk, u2.keep k hk, app_keep (by rw [u1.len]; exact hlt), u1.keep k hk]
  · simp only [b28s13, n_bind, n_bindS, n_go, n_some, n_none, n_nox, n_var, n_gl, n_lit, n_bin, n_neg, n_not, n_cmp, n_chn, n_chnT, n_chnF, n_and, n_or, n_ite, n_call, n_bi, n_biq, n_ix, n_sl, n_srev, n_tup, n_lst, n_lstQ, n_comp, n_compQ, n_nil, n_nilO, n_cons, n_star, n_seqI, n_rg1, n_rg2, n_zip, n_enum, n_varQ, n_callQ, n_ixQ, n_slQ, n_srevQ, n_glQ, n_tupQ, n_binQ, n_biQ, n_biqQ, n_iteQ, n_litO, n_varO, n_binO, v_add, v_sub, v_mul, v_fdiv, v_mod, v_pow, v_adds, v_addt, v_lt, v_le, v_gt, v_ge, v_eq, v_ne, v_eqt, v_net, v_eqs, v_nes, v_eql, v_trb, v_abs, v_min, v_max, v_int, v_intb, v_lent, v_isi, v_ixt, v_tup, v_lst, v_lstq, x_nil, x_seq, x_nx, x_rt, x_bk, x_ct, x_set, x_setK, x_asg, x_asgK, x_par, x_parK, x_sub, x_subK, x_aug, x_augK, x_drop, x_ite, x_whl, x_for, x_ret, x_retN, x_brk, x_cont, x_pass, x_tru, x_wh, x_lnx, x_lct, x_lbk, x_lrt, x_turn, x_putn, x_putt, x_puts0, x_puts, x_ps0, x_ps, x_forv, x_fort, x_forl0, x_forl, x_cF, x_cv, x_ct', x_cl0, x_cl, x_t0, x_t1, x_w0, x_w, x_el, v_allv, v_allt, v_srct, v_sall, v_stup, v_nilB, v_rng1, Option.join_some, List.getElem?_cons_zero, List.getElem?_cons_succ, List.length_cons, List.length_nil, List.set_cons_zero, List.set_cons_succ, if_true, if_false, ite_true, ite_false, List.nil_append, List.append_nil, List.cons_append, Option.bind_some, Option.map_some, Option.elim_some, List.map_cons, List.map_nil, List.replicate_succ, List.replicate_zero, Nat.reduceSub, Nat.reduceAdd, Nat.reduceLT, Nat.sub_self, Nat.zero_lt_succ, Nat.lt_add_one, Bool.false_eq_true, Bool.not_true, Bool.not_false, e1, f2]
    rw [e2]
    simp only [n_bind, n_bindS, n_go, n_some, n_none, n_nox, n_var, n_gl, n_lit, n_bin, n_neg, n_not, n_cmp, n_chn, n_chnT, n_chnF, n_and, n_or, n_ite, n_call, n_bi, n_biq, n_ix, n_sl, n_srev, n_tup, n_lst, n_lstQ, n_comp, n_compQ, n_nil, n_nilO, n_cons, n_star, n_seqI, n_rg1, n_rg2, n_zip, n_enum, n_varQ, n_callQ, n_ixQ, n_slQ, n_srevQ, n_glQ, n_tupQ, n_binQ, n_biQ, n_biqQ, n_iteQ, n_litO, n_varO, n_binO, v_add, v_sub, v_mul, v_fdiv, v_mod, v_pow, v_adds, v_addt, v_lt, v_le, v_gt, v_ge, v_eq, v_ne, v_eqt, v_net, v_eqs, v_nes, v_eql, v_trb, v_abs, v_min, v_max, v_int, v_intb, v_lent, v_isi, v_ixt, v_tup, v_lst, v_lstq, x_nil, x_seq, x_nx, x_rt, x_bk, x_ct, x_set, x_setK, x_asg, x_asgK, x_par, x_parK, x_sub, x_subK, x_aug, x_augK, x_drop, x_ite, x_whl, x_for, x_ret, x_retN, x_brk, x_cont, x_pass, x_tru, x_wh, x_lnx, x_lct, x_lbk, x_lrt, x_turn, x_putn, x_putt, x_puts0, x_puts, x_ps0, x_ps, x_forv, x_fort, x_forl0, x_forl, x_cF, x_cv, x_ct', x_cl0, x_cl, x_t0, x_t1, x_w0, x_w, x_el, v_allv, v_allt, v_srct, v_sall, v_stup, v_nilB, v_rng1, Option.join_some, List.getElem?_cons_zero, List.getElem?_cons_succ, List.length_cons, List.length_nil, List.set_cons_zero, List.set_cons_succ, if_true, if_false, ite_true, ite_false, List.nil_append, List.append_nil, List.cons_append, Option.bind_some, Option.map_some, Option.elim_some, List.map_cons, List.map_nil, List.replicate_succ, List.replicate_zero, Nat.reduceSub, Nat.reduceAdd, Nat.reduceLT, Nat.sub_self, Nat.zero_lt_succ, Nat.lt_add_one, Bool.false_eq_true, Bool.not_true, Bool.not_false, e3]
theorem r14 (hW : 2 ^ 8000 ≤ W) {t b : Int} (ht : t.natAbs ≤ 10 ^ 19) (hb : b ≠ 0) (hb2 : b.natAbs ≤ 10 ^ 19) : ex (runF fds W (n + 6)) W b28s14 [x0, x1, x2, x3, v4, v5, v6, v7, v8, v9, v10, v11, some (.int t), some (.int b)] m = .ok (.ret (.bl true)) m := by
  have hb' : b.natAbs < 10 ^ 40 := Nat.lt_of_le_of_lt hb2 (by decide)
  have ht' : t.natAbs < 10 ^ 40 := Nat.lt_of_le_of_lt ht (by decide)
  have Lt1 : Lt 8000 t := Lt.mono (a := 140) (Nat.lt_trans ht' (by decide)) (by decide)
  have Lt2 : Lt 8000 b := Lt.mono (a := 140) (Nat.lt_trans hb' (by decide)) (by decide)
  have e1 := number_ok (W := W) (n := n + 3) (m := m) hW hb ht' hb'
  have e2 := lfr_ok (W := W) (n := n + 5) (m := m) hW hb Lt1 Lt2
  have e3 := number_ok (W := W) (n := n + 3) (m := m) (t := t) (b := 1) hW (by decide) ht' (by decide)
  have ef : (D.tup [.int t, .int 1]) = fr (Rat.divInt t 1) := by
    unfold fr
    have n1 := divInt_num (t := t) (b := 1) (by decide)
    have n2 := divInt_den (t := t) (b := 1) (by decide)
    rw [n1, n2]; simp
  have hz : Sz 1900 (Rat.divInt t 1) := divInt_sz (by decide) (Lt.mono (a := 140) (Nat.lt_trans ht' (by decide)) (by decide)) (Lt.mono (a := 1) (by decide) (by decide))
  simp only [b28s14, n_bind, n_bindS, n_go, n_some, n_none, n_nox, n_var, n_gl, n_lit, n_bin, n_neg, n_not, n_cmp, n_chn, n_chnT, n_chnF, n_and, n_or, n_ite, n_call, n_bi, n_biq, n_ix, n_sl, n_srev, n_tup, n_lst, n_lstQ, n_comp, n_compQ, n_nil, n_nilO, n_cons, n_star, n_seqI, n_rg1, n_rg2, n_zip, n_enum, n_varQ, n_callQ, n_ixQ, n_slQ, n_srevQ, n_glQ, n_tupQ, n_binQ, n_biQ, n_biqQ, n_iteQ, n_litO, n_varO, n_binO, v_add, v_sub, v_mul, v_fdiv, v_mod, v_pow, v_adds, v_addt, v_lt, v_le, v_gt, v_ge, v_eq, v_ne, v_eqt, v_net, v_eqs, v_nes, v_eql, v_trb, v_abs, v_min, v_max, v_int, v_intb, v_lent, v_isi, v_ixt, v_tup, v_lst, v_lstq, x_nil, x_seq, x_nx, x_rt, x_bk, x_ct, x_set, x_setK, x_asg, x_asgK, x_par, x_parK, x_sub, x_subK, x_aug, x_augK, x_drop, x_ite, x_whl, x_for, x_ret, x_retN, x_brk, x_cont, x_pass, x_tru, x_wh, x_lnx, x_lct, x_lbk, x_lrt, x_turn, x_putn, x_putt, x_puts0, x_puts, x_ps0, x_ps, x_forv, x_fort, x_forl0, x_forl, x_cF, x_cv, x_ct', x_cl0, x_cl, x_t0, x_t1, x_w0, x_w, x_el, v_allv, v_allt, v_srct, v_sall, v_stup, v_nilB, v_rng1, Option.join_some, List.getElem?_cons_zero, List.getElem?_cons_succ, List.length_cons, List.length_nil, List.set_cons_zero, List.set_cons_succ, if_true, if_false, ite_true, ite_false, List.nil_append, List.append_nil, List.cons_append, Option.bind_some, Option.map_some, Option.elim_some, List.map_cons, List.map_nil, List.replicate_succ, List.replicate_zero, Nat.reduceSub, Nat.reduceAdd, Nat.reduceLT, Nat.sub_self, Nat.zero_lt_succ, Nat.lt_add_one, Bool.false_eq_true, Bool.not_true, Bool.not_false, e1, e2, e3, f2, ef, eq_fr, decide_true, repr_fr hz]
end
end K21
set_option Elab.async false
set_option linter.all false
set_option maxRecDepth 100000
namespace K21
open PySem Ev
section
variable {W n : Nat} {m : M} {c l : Nat}
theorem right_ok (hW : 2 ^ 8000 ≤ W) (hc : c + 100 ≤ 90000) (h : Dc c l m) : ∃ m', runF fds W (n + 7) 28 [.loc l] m = .ok (.bl true) m' ∧ Up (c + 100) l m m' := by
  have hl := h.lt
  obtain ⟨p, q, r, m1, sp, sq, sr, u1, e0⟩ := r0 (W := W) (n := n) (v4 := none) (v5 := none) (v6 := none) (v7 := none) (v8 := none) (v9 := none) (v10 := none) (v11 := none) (v12 := none) (v13 := none) hW (by omega) h
  have fA : (MO.lst ([p + q, p - q, p * q, p].map fr)).undr 0 = true := rfl
  have d2 := u1.dc.app fA
  have d3 := d2.app fA
  obtain ⟨y3, e3⟩ := r3 (W := W) (n := n) (m := m1 ++ [.lst ([p + q, p - q, p * q, p].map fr)] ++ [.lst ([p + q, p - q, p * q, p].map fr)]) (l := l) (r := r) (v4 := some (.loc m1.length)) (v5 := none) (v6 := none) (v7 := none) (v8 := none) (v9 := none) (v10 := none) (v11 := none) (v12 := none) (v13 := none) hW sp sq
  obtain ⟨rs, m4, hrl, hrs, u4, e7⟩ := r7 (W := W) (n := n) (x0 := some (fr p)) (x1 := some (fr q)) (x2 := some (fr r)) (v4 := some (.loc m1.length)) (v5 := y3) (v6 := some (.int (p.num * q.den))) (v7 := some (.int (q.num * p.den))) (v8 := none) (v9 := none) (v10 := none) (v11 := none) (v12 := none) (v13 := none) hW (by omega) d3
  have fr0 : ∀ l : List Rat, (MO.lst (l.map fr)).undr 0 = true := fun l => by
    show D.undrL 0 (l.map fr) = true
    induction l with
    | nil => rfl
    | cons q l ih =>
      rw [List.map_cons]
      simp only [D.undrL, ih, Bool.and_true]
      rfl
  have d5 := u4.dc.app (fr0 rs)
  have d6 := d5.app (fr0 rs.reverse)
  obtain ⟨y8, e8⟩ := r8 (W := W) (n := n) (l := l) (m := m4 ++ [.lst (rs.map fr)]) (x0 := some (fr p)) (x1 := some (fr q)) (x2 := some (fr r)) (v4 := some (.loc m1.length)) (v6 := some (.int (p.num * q.den))) (v7 := some (.int (q.num * p.den))) (v9 := none) (v10 := none) (v11 := none) (v12 := none) (v13 := none) hW app_last hrs hrl
  obtain ⟨k, m7, k0, k1, u7, e10⟩ := r10 (W := W) (n := n) (x0 := some (fr p)) (x1 := some (fr q)) (x2 := some (fr r)) (v4 := some (.loc m1.length)) (v5 := some (fr (sumR 0 rs))) (v6 := some (.int (p.num * q.den))) (v7 := some (.int (q.num * p.den))) (v8 := some (.loc m4.length)) (v9 := y8) (v10 := none) (v11 := none) (v12 := none) (v13 := none) (by omega) d6
  obtain ⟨y11, e11⟩ := r11 (W := W) (n := n) (m := m7) (x0 := some (.loc l)) (x1 := some (fr q)) (x2 := some (fr r)) (v4 := some (.loc m1.length)) (v6 := some (.int (p.num * q.den))) (v7 := some (.int (q.num * p.den))) (v8 := some (.loc m4.length)) (v9 := y8) (v11 := none) (v12 := none) (v13 := none) hW sp k0 k1
  obtain ⟨t, b, _, m8, ht, hb, hb2, d8, l8, k8, e13⟩ := r13 (W := W) (n := n) (x0 := some (fr p)) (x1 := some (fr q)) (x2 := some (fr r)) (v4 := some (.loc m1.length)) (v5 := some (fr (powR p 1 k.toNat))) (v6 := some (.int (p.num * q.den))) (v7 := some (.int (q.num * p.den))) (v8 := some (.loc m4.length)) (v9 := y8) (v10 := some (.int k)) (v11 := y11) (v12 := none) (v13 := none) (by omega) u7.dc
  have len1 := u1.len
  have len4 : m4.length = m.length + 2 := by rw [u4.len]; simp [len1]
  have len7 : m7.length = m.length + 4 := by rw [u7.len]; simp [len4]
  refine ⟨m8.take m.length, ?_, Up.back (m1 := m8) ⟨d8.up (by omega), rfl, fun _ _ => rfl⟩ hl (fun j hj hlt => ?_) (by omega)⟩
  · rw [runF_at (f := ⟨1, 14, b28⟩) rfl]
    refine c_ret2 rfl d8.fl rfl (by omega) ?_
    show ex (runF fds W (n + 6)) W b28 [some (.loc l), none, none, none, none, none, none, none, none, none, none, none, none, none] m = _
    unfold b28
    rw [x_seq, e0, n_bind, x_nx, x_seq, r1 hW sp sq, n_bind, x_nx, x_seq, r2 hW sp sq app_last, n_bind, x_nx, x_seq, e3, n_bind, x_nx, x_seq, r4 sp sq, n_bind, x_nx, x_seq, r5 hW sp sq, n_bind, x_nx, x_seq, r6 hW sp sq sr, n_bind, x_nx,
      x_seq, e7, n_bind, x_nx, x_seq, e8, n_bind, x_nx, x_seq, r9 hW app_last hrs hrl, n_bind, x_nx, x_seq, e10, n_bind, x_nx, x_seq, e11, n_bind, x_nx, x_seq, r12 hW sp k0 k1, n_bind, x_nx, x_seq, e13, n_bind, x_nx, x_seq, r14 hW ht hb hb2, n_bind, x_rt]
  · rw [k8 j hj (by omega), u7.keep j hj, app_keep (by simp [len4]; omega), app_keep (by omega), u4.keep j hj, app_keep (by simp [len1]; omega), app_keep (by omega), u1.keep j hj]
end
end K21
set_option Elab.async false
set_option linter.all false
set_option maxRecDepth 100000
namespace K21
open PySem Ev
section
variable {W n : Nat} {m : M} {c l : Nat}
theorem max6 {k : Nat} (hk : k ≤ 63) : 0 ≤ (if (if (k : Int) < 6 then (k : Int) else 6) > 1 then (if (k : Int) < 6 then (k : Int) else 6) else 1) ∧ (if (if (k : Int) < 6 then (k : Int) else 6) > 1 then (if (k : Int) < 6 then (k : Int) else 6) else 1) ≤ 6 := by
  split <;> split <;> omega
/-- three turns with the dice at l -/
theorem inner (hW : 2 ^ 8000 ≤ W) {x0 x1 x4 x5 : Option D} : ∀ (ds : List D) (c : Nat) (m : M) (x3 : Option D), c + 100 * ds.length ≤ 80000 → Dc c l m → ∃ (m' : M) (y : Option D), Up (c + 100 * ds.length) l m m' ∧
    forL (turnF (.nm 3) (ex (runF fds W (n + 7)) W (.seq (.ite (.not (.call "_law_right" 28 (.cons (.var 2) .nil) [])) (.seq (.ret (.lit (.bl false))) .nil) .nil) .nil))) ds [x0, x1, some (.loc l), x3, x4, x5] m = .ok (.nx [x0, x1, some (.loc l), y, x4, x5]) m'
  | [], c, m, x3, _, h => ⟨m, x3, ⟨h, rfl, fun _ _ => rfl⟩, rfl⟩
  | d :: ds, c, m, x3, hc, h => by
    rw [List.length_cons, Nat.mul_add] at hc
    obtain ⟨m1, e1, u1⟩ := right_ok (W := W) (n := n) hW (by omega) h
    obtain ⟨m2, y, u2, e2⟩ := inner hW ds (c + 100) m1 (some d) (by omega) u1.dc
    refine ⟨m2, y, ?_, ?_⟩
    · have u := u1.trans u2
      exact ⟨u.dc.up (by rw [List.length_cons, Nat.mul_add]; omega), u.len, u.keep⟩
    · rw [x_forl]
      simp only [n_bind, n_bindS, n_go, n_some, n_none, n_nox, n_var, n_gl, n_lit, n_bin, n_neg, n_not, n_cmp, n_chn, n_chnT, n_chnF, n_and, n_or, n_ite, n_call, n_bi, n_biq, n_ix, n_sl, n_srev, n_tup, n_lst, n_lstQ, n_comp, n_compQ, n_nil, n_nilO, n_cons, n_star, n_seqI, n_rg1, n_rg2, n_zip, n_enum, n_varQ, n_callQ, n_ixQ, n_slQ, n_srevQ, n_glQ, n_tupQ, n_binQ, n_biQ, n_biqQ, n_iteQ, n_litO, n_varO, n_binO, v_add, v_sub, v_mul, v_fdiv, v_mod, v_pow, v_adds, v_addt, v_lt, v_le, v_gt, v_ge, v_eq, v_ne, v_eqt, v_net, v_eqs, v_nes, v_eql, v_trb, v_abs, v_min, v_max, v_int, v_intb, v_lent, v_isi, v_ixt, v_tup, v_lst, v_lstq, x_nil, x_seq, x_nx, x_rt, x_bk, x_ct, x_set, x_setK, x_asg, x_asgK, x_par, x_parK, x_sub, x_subK, x_aug, x_augK, x_drop, x_ite, x_whl, x_for, x_ret, x_retN, x_brk, x_cont, x_pass, x_tru, x_wh, x_lnx, x_lct, x_lbk, x_lrt, x_turn, x_putn, x_putt, x_puts0, x_puts, x_ps0, x_ps, x_forv, x_fort, x_forl0, x_forl, x_cF, x_cv, x_ct', x_cl0, x_cl, x_t0, x_t1, x_w0, x_w, x_el, v_allv, v_allt, v_srct, v_sall, v_stup, v_nilB, v_rng1, Option.join_some, List.getElem?_cons_zero, List.getElem?_cons_succ, List.length_cons, List.length_nil, List.set_cons_zero, List.set_cons_succ, if_true, if_false, ite_true, ite_false, List.nil_append, List.append_nil, List.cons_append, Option.bind_some, Option.map_some, Option.elim_some, List.map_cons, List.map_nil, List.replicate_succ, List.replicate_zero, Nat.reduceSub, Nat.reduceAdd, Nat.reduceLT, Nat.sub_self, Nat.zero_lt_succ, Nat.lt_add_one, Bool.false_eq_true, Bool.not_true, Bool.not_false, e1]
      exact e2
theorem outer (hW : 2 ^ 8000 ≤ W) {ns : List Int} (hl : ns.length ≤ 63) {x4 x5 : Option D} : ∀ (is : List Int) (m : M) (x1 x2 x3 : Option D), (∀ i ∈ is, 0 ≤ i ∧ i ≤ 100) → m[0]? = some (.frz (ns.map D.int)) → Flat m → ∃ (m' : M) (y1 y2 y3 : Option D), m'[0]? = some (.frz (ns.map D.int)) ∧ Flat m' ∧
    forL (turnF (.nm 1) (ex (runF fds W (n + 7)) W (.seq (.set 2 (.call "_law_dice" 19 (.cons (.var 0) (.cons (.var 1) .nil)) []))
  (.seq (.for (.nm 3) (.range1 (.lit (.int 3)))
  (.seq (.ite (.not (.call "_law_right" 28 (.cons (.var 2) .nil) []))
  (.seq (.ret (.lit (.bl false)))
  .nil)
  .nil)
  .nil))
  .nil)))) (is.map D.int) [some (.loc 0), x1, x2, x3, x4, x5] m = .ok (.nx [some (.loc 0), y1, y2, y3, x4, x5]) m'
  | [], m, x1, x2, x3, _, h0, hf => ⟨m, x1, x2, x3, h0, hf, rfl⟩
  | i :: is, m, x1, x2, x3, hi, h0, hf => by
    obtain ⟨i0, i1⟩ := hi i List.mem_cons_self
    obtain ⟨m1, e1, d1, l1, k1⟩ := dice_ok (W := W) (n := n + 6) (spot := i) h0 hf i0 i1 hl
    have hm : 0 < m.length := (List.getElem?_eq_some_iff.mp h0).1
    obtain ⟨m2, y, u2, e2⟩ := inner (W := W) (n := n) (l := m.length) (x0 := some (.loc 0)) (x1 := some (.int i)) (x4 := x4) (x5 := x5) hW [.int (0 + (0 : Nat)), .int (0 + (1 : Nat)), .int (0 + (2 : Nat))] 0 m1 x3 (by simp) d1
    have z0 : m2[0]? = some (.frz (ns.map D.int)) := by rw [u2.keep 0 (by omega), k1 0 hm, h0]
    obtain ⟨m3, y1, y2, y3, z1, z2, e3⟩ := outer hW hl is m2 (some (.int i)) (some (.loc m.length)) y (fun j hj => hi j (List.mem_cons_of_mem _ hj)) z0 u2.dc.fl
    refine ⟨m3, y1, y2, y3, z1, z2, ?_⟩
    have hr : rangeD 0 3 = [.int (0 + (0 : Nat)), .int (0 + (1 : Nat)), .int (0 + (2 : Nat))] := rfl
    rw [← hr] at e2
    rw [List.map_cons, x_forl]
    simp only [n_bind, n_bindS, n_go, n_some, n_none, n_nox, n_var, n_gl, n_lit, n_bin, n_neg, n_not, n_cmp, n_chn, n_chnT, n_chnF, n_and, n_or, n_ite, n_call, n_bi, n_biq, n_ix, n_sl, n_srev, n_tup, n_lst, n_lstQ, n_comp, n_compQ, n_nil, n_nilO, n_cons, n_star, n_seqI, n_rg1, n_rg2, n_zip, n_enum, n_varQ, n_callQ, n_ixQ, n_slQ, n_srevQ, n_glQ, n_tupQ, n_binQ, n_biQ, n_biqQ, n_iteQ, n_litO, n_varO, n_binO, v_add, v_sub, v_mul, v_fdiv, v_mod, v_pow, v_adds, v_addt, v_lt, v_le, v_gt, v_ge, v_eq, v_ne, v_eqt, v_net, v_eqs, v_nes, v_eql, v_trb, v_abs, v_min, v_max, v_int, v_intb, v_lent, v_isi, v_ixt, v_tup, v_lst, v_lstq, x_nil, x_seq, x_nx, x_rt, x_bk, x_ct, x_set, x_setK, x_asg, x_asgK, x_par, x_parK, x_sub, x_subK, x_aug, x_augK, x_drop, x_ite, x_whl, x_for, x_ret, x_retN, x_brk, x_cont, x_pass, x_tru, x_wh, x_lnx, x_lct, x_lbk, x_lrt, x_turn, x_putn, x_putt, x_puts0, x_puts, x_ps0, x_ps, x_forv, x_fort, x_forl0, x_forl, x_cF, x_cv, x_ct', x_cl0, x_cl, x_t0, x_t1, x_w0, x_w, x_el, v_allv, v_allt, v_srct, v_sall, v_stup, v_nilB, v_rng1, Option.join_some, List.getElem?_cons_zero, List.getElem?_cons_succ, List.length_cons, List.length_nil, List.set_cons_zero, List.set_cons_succ, if_true, if_false, ite_true, ite_false, List.nil_append, List.append_nil, List.cons_append, Option.bind_some, Option.map_some, Option.elim_some, List.map_cons, List.map_nil, List.replicate_succ, List.replicate_zero, Nat.reduceSub, Nat.reduceAdd, Nat.reduceLT, Nat.sub_self, Nat.zero_lt_succ, Nat.lt_add_one, Bool.false_eq_true, Bool.not_true, Bool.not_false, e1, rOk_small (show (0 : Int) ≤ 3 by decide) (show (3 : Int) ≤ 1000 by decide), Int.reduceToNat, e2]
    exact e3
/-! ### the end -/
def gA : Int := 1000000000000000000000000000000000000000000000000000000000001
def gB : Int := 100000000000000000000000000000000000000000000000000000000003
theorem p60 : powOk 10 60 = true ∧ ((10 : Int) ^ (60 : Int).toNat) + 1 = gA ∧ powOk 10 59 = true ∧ ((10 : Int) ^ (59 : Int).toNat) + 3 = gB := by decide +kernel
theorem p39 : powOk 10 39 = true ∧ ((10 : Int) ^ (39 : Int).toNat) = 1000000000000000000000000000000000000000 := by decide +kernel
theorem gfr : D.tup [.int gA, .int gB] = fr (Rat.divInt gA gB) := by
  unfold fr
  rw [show (Rat.divInt gA gB).num = gA by decide +kernel, show ((Rat.divInt gA gB).den : Int) = gB by decide +kernel]
theorem sg : Sz 300 (Rat.divInt gA gB) := by constructor <;> decide +kernel
theorem t13 : D.tup [.int 1, .int 3] = fr (Rat.divInt 1 3) := by
  unfold fr
  rw [show (Rat.divInt 1 3).num = 1 by decide +kernel, show ((Rat.divInt 1 3).den : Int) = 3 by decide +kernel]
theorem s13 : Sz 300 (Rat.divInt 1 3) := by constructor <;> decide +kernel
theorem t12 : D.tup [.int (-1), .int 2] = fr (Rat.divInt (-1) 2) := by
  unfold fr
  rw [show (Rat.divInt (-1) 2).num = -1 by decide +kernel, show ((Rat.divInt (-1) 2).den : Int) = 2 by decide +kernel]
theorem s12 : Sz 2 (Rat.divInt (-1) 2) := by constructor <;> decide +kernel
theorem tm13 : D.tup [.int (-1), .int 3] = fr (Rat.divInt (-1) 3) := by
  unfold fr
  rw [show (Rat.divInt (-1) 3).num = -1 by decide +kernel, show ((Rat.divInt (-1) 3).den : Int) = 3 by decide +kernel]
theorem sm13 : Sz 3 (Rat.divInt (-1) 3) := by constructor <;> decide +kernel
theorem tbig : D.tup [.int 1, .int 1152921504606846976] = fr (powR (Rat.divInt (-1) 2) 1 60) := by
  unfold fr
  rw [show (powR (Rat.divInt (-1) 2) 1 60).num = 1 by decide +kernel, show ((powR (Rat.divInt (-1) 2) 1 60).den : Int) = 1152921504606846976 by decide +kernel]
theorem n1fr : fr (Rat.divInt 1000000000000000000000000000000000000000 (-1000000000000000000000000000000000000000)) = D.tup [.int (-1), .int 1] := by
  unfold fr
  rw [show (Rat.divInt 1000000000000000000000000000000000000000 (-1000000000000000000000000000000000000000)).num = -1 by decide +kernel, show ((Rat.divInt 1000000000000000000000000000000000000000 (-1000000000000000000000000000000000000000)).den : Int) = 1 by decide +kernel]
theorem n2fr : fr (Rat.divInt (-6) 4) = D.tup [.int (-3), .int 2] := by
  unfold fr
  rw [show (Rat.divInt (-6) 4).num = -3 by decide +kernel, show ((Rat.divInt (-6) 4).den : Int) = 2 by decide +kernel]
theorem cm : cmpI (Rat.divInt (-1) 2) (Rat.divInt (-1) 3) = -1 := by decide +kernel
theorem nneg {i : Int} : (ev (runF fds W n) W (.neg (.lit (.int i)))).v [] m = .ok (.int (-i)) m := rfl
theorem q1 {x0 x1 x2 x3 x4 x5 : Option D} : ex (runF fds W (n + 7)) W b29s1 [x0, x1, x2, x3, x4, x5] m = .ok (.nx [x0, x1, x2, x3, some (fr (Rat.divInt gA gB)), x5]) m := by
  simp only [b29s1, n_bind, n_bindS, n_go, n_some, n_none, n_nox, n_var, n_gl, n_lit, n_bin, n_neg, n_not, n_cmp, n_chn, n_chnT, n_chnF, n_and, n_or, n_ite, n_call, n_bi, n_biq, n_ix, n_sl, n_srev, n_tup, n_lst, n_lstQ, n_comp, n_compQ, n_nil, n_nilO, n_cons, n_star, n_seqI, n_rg1, n_rg2, n_zip, n_enum, n_varQ, n_callQ, n_ixQ, n_slQ, n_srevQ, n_glQ, n_tupQ, n_binQ, n_biQ, n_biqQ, n_iteQ, n_litO, n_varO, n_binO, v_add, v_sub, v_mul, v_fdiv, v_mod, v_pow, v_adds, v_addt, v_lt, v_le, v_gt, v_ge, v_eq, v_ne, v_eqt, v_net, v_eqs, v_nes, v_eql, v_trb, v_abs, v_min, v_max, v_int, v_intb, v_lent, v_isi, v_ixt, v_tup, v_lst, v_lstq, x_nil, x_seq, x_nx, x_rt, x_bk, x_ct, x_set, x_setK, x_asg, x_asgK, x_par, x_parK, x_sub, x_subK, x_aug, x_augK, x_drop, x_ite, x_whl, x_for, x_ret, x_retN, x_brk, x_cont, x_pass, x_tru, x_wh, x_lnx, x_lct, x_lbk, x_lrt, x_turn, x_putn, x_putt, x_puts0, x_puts, x_ps0, x_ps, x_forv, x_fort, x_forl0, x_forl, x_cF, x_cv, x_ct', x_cl0, x_cl, x_t0, x_t1, x_w0, x_w, x_el, v_allv, v_allt, v_srct, v_sall, v_stup, v_nilB, v_rng1, Option.join_some, List.getElem?_cons_zero, List.getElem?_cons_succ, List.length_cons, List.length_nil, List.set_cons_zero, List.set_cons_succ, if_true, if_false, ite_true, ite_false, List.nil_append, List.append_nil, List.cons_append, Option.bind_some, Option.map_some, Option.elim_some, List.map_cons, List.map_nil, List.replicate_succ, List.replicate_zero, Nat.reduceSub, Nat.reduceAdd, Nat.reduceLT, Nat.sub_self, Nat.zero_lt_succ, Nat.lt_add_one, Bool.false_eq_true, Bool.not_true, Bool.not_false, p60.1, p60.2.1, p60.2.2.1, p60.2.2.2, f2, gfr]
theorem q2 (hW : 2 ^ 8000 ≤ W) {x0 x1 x2 x3 x5 : Option D} : ex (runF fds W (n + 7)) W b29s2 [x0, x1, x2, x3, some (fr (Rat.divInt gA gB)), x5] m = .ok (.nx [x0, x1, x2, x3, some (fr (Rat.divInt gA gB)), some (.loc m.length)]) (m ++ [.lst [.bl true, .bl true]]) := by
  have e1 := plus_ok (W := W) (n := n + 3) (m := m) hW (sz3 sg) (sz3 s13)
  have e2 := lplus_ok (W := W) (n := n + 5) (m := m) hW (sz3 sg) (sz3 s13)
  have e3 := power_ok (W := W) (n := n + 3) (m := m) (i := 60) hW s12 (by decide) (by decide) (by decide) (by decide)
  have e4 : (60 : Int).toNat = 60 := rfl
  rw [e4] at e3
  simp only [b29s2, n_bind, n_bindS, n_go, n_some, n_none, n_nox, n_var, n_gl, n_lit, n_bin, n_neg, n_not, n_cmp, n_chn, n_chnT, n_chnF, n_and, n_or, n_ite, n_call, n_bi, n_biq, n_ix, n_sl, n_srev, n_tup, n_lst, n_lstQ, n_comp, n_compQ, n_nil, n_nilO, n_cons, n_star, n_seqI, n_rg1, n_rg2, n_zip, n_enum, n_varQ, n_callQ, n_ixQ, n_slQ, n_srevQ, n_glQ, n_tupQ, n_binQ, n_biQ, n_biqQ, n_iteQ, n_litO, n_varO, n_binO, v_add, v_sub, v_mul, v_fdiv, v_mod, v_pow, v_adds, v_addt, v_lt, v_le, v_gt, v_ge, v_eq, v_ne, v_eqt, v_net, v_eqs, v_nes, v_eql, v_trb, v_abs, v_min, v_max, v_int, v_intb, v_lent, v_isi, v_ixt, v_tup, v_lst, v_lstq, x_nil, x_seq, x_nx, x_rt, x_bk, x_ct, x_set, x_setK, x_asg, x_asgK, x_par, x_parK, x_sub, x_subK, x_aug, x_augK, x_drop, x_ite, x_whl, x_for, x_ret, x_retN, x_brk, x_cont, x_pass, x_tru, x_wh, x_lnx, x_lct, x_lbk, x_lrt, x_turn, x_putn, x_putt, x_puts0, x_puts, x_ps0, x_ps, x_forv, x_fort, x_forl0, x_forl, x_cF, x_cv, x_ct', x_cl0, x_cl, x_t0, x_t1, x_w0, x_w, x_el, v_allv, v_allt, v_srct, v_sall, v_stup, v_nilB, v_rng1, Option.join_some, List.getElem?_cons_zero, List.getElem?_cons_succ, List.length_cons, List.length_nil, List.set_cons_zero, List.set_cons_succ, if_true, if_false, ite_true, ite_false, List.nil_append, List.append_nil, List.cons_append, Option.bind_some, Option.map_some, Option.elim_some, List.map_cons, List.map_nil, List.replicate_succ, List.replicate_zero, Nat.reduceSub, Nat.reduceAdd, Nat.reduceLT, Nat.sub_self, Nat.zero_lt_succ, Nat.lt_add_one, Bool.false_eq_true, Bool.not_true, Bool.not_false, f2, t13, t12, tbig, e1, e2, e3, eq_fr, decide_true]
theorem q3 (hW : 2 ^ 8000 ≤ W) {x0 x1 x2 x3 x4 : Option D} {L : Nat} (hL : m[L]? = some (.lst [.bl true, .bl true])) : ex (runF fds W (n + 7)) W b29s3 [x0, x1, x2, x3, x4, some (.loc L)] m = .ok (.nx [x0, x1, x2, x3, x4, some (.loc (m.length + 1))]) (m ++ [.lst [.tup [.int (-1), .int 1], .tup [.int (-3), .int 2], .tup [.int 0, .int 1], .int (-1)]] ++ [.lst [.bl true, .bl true, .tup [.int (-1), .int 1], .tup [.int (-3), .int 2], .tup [.int 0, .int 1], .int (-1)]]) := by
  have e1 := number_ok (W := W) (n := n + 4) (m := m) (t := 1000000000000000000000000000000000000000) (b := -1000000000000000000000000000000000000000) hW (by decide) (by decide) (by decide)
  have e2 := number_ok (W := W) (n := n + 4) (m := m) (t := -6) (b := 4) hW (by decide) (by decide) (by decide)
  have e3 := total_ok (W := W) (n := n + 2) (m := m) (qs := []) hW (fun q h => by cases h) (by decide)
  have e4 := compd_ok (W := W) (n := n + 3) (m := m) hW (sz3 s12) (sz3 sm13)
  have e5 : fr (sumR 0 []) = D.tup [.int 0, .int 1] := rfl
  rw [n1fr] at e1
  rw [n2fr] at e2
  rw [List.map_nil, e5] at e3
  rw [cm] at e4
  have f0 : fits 0 = true := fits_ok (by decide)
  have ea : binV .add (m ++ [.lst [.tup [.int (-1), .int 1], .tup [.int (-3), .int 2], .tup [.int 0, .int 1], .int (-1)]]) (.loc L) (.loc m.length) = .ok (.loc (m.length + 1)) (m ++ [.lst [.tup [.int (-1), .int 1], .tup [.int (-3), .int 2], .tup [.int 0, .int 1], .int (-1)]] ++ [.lst [.bl true, .bl true, .tup [.int (-1), .int 1], .tup [.int (-3), .int 2], .tup [.int 0, .int 1], .int (-1)]]) := by
    have hlt : L < m.length := (List.getElem?_eq_some_iff.mp hL).1
    have g1 : (m ++ [MO.lst [.tup [.int (-1), .int 1], .tup [.int (-3), .int 2], .tup [.int 0, .int 1], .int (-1)]])[L]? = some (.lst [.bl true, .bl true]) := by rw [app_keep hlt, hL]
    have g2 : (m ++ [MO.lst [.tup [.int (-1), .int 1], .tup [.int (-3), .int 2], .tup [.int 0, .int 1], .int (-1)]])[m.length]? = some (.lst [.tup [.int (-1), .int 1], .tup [.int (-3), .int 2], .tup [.int 0, .int 1], .int (-1)]) := app_last
    unfold binV
    dsimp only
    rw [g1, g2]
    dsimp only
    rw [if_pos (fits_ok (by decide))]
    simp
  simp only [b29s3, n_bind, n_bindS, n_go, n_some, n_none, n_nox, n_var, n_gl, n_lit, n_bin, n_neg, n_not, n_cmp, n_chn, n_chnT, n_chnF, n_and, n_or, n_ite, n_call, n_bi, n_biq, n_ix, n_sl, n_srev, n_tup, n_lst, n_lstQ, n_comp, n_compQ, n_nil, n_nilO, n_cons, n_star, n_seqI, n_rg1, n_rg2, n_zip, n_enum, n_varQ, n_callQ, n_ixQ, n_slQ, n_srevQ, n_glQ, n_tupQ, n_binQ, n_biQ, n_biqQ, n_iteQ, n_litO, n_varO, n_binO, v_add, v_sub, v_mul, v_fdiv, v_mod, v_pow, v_adds, v_addt, v_lt, v_le, v_gt, v_ge, v_eq, v_ne, v_eqt, v_net, v_eqs, v_nes, v_eql, v_trb, v_abs, v_min, v_max, v_int, v_intb, v_lent, v_isi, v_ixt, v_tup, v_lst, v_lstq, x_nil, x_seq, x_nx, x_rt, x_bk, x_ct, x_set, x_setK, x_asg, x_asgK, x_par, x_parK, x_sub, x_subK, x_aug, x_augK, x_drop, x_ite, x_whl, x_for, x_ret, x_retN, x_brk, x_cont, x_pass, x_tru, x_wh, x_lnx, x_lct, x_lbk, x_lrt, x_turn, x_putn, x_putt, x_puts0, x_puts, x_ps0, x_ps, x_forv, x_fort, x_forl0, x_forl, x_cF, x_cv, x_ct', x_cl0, x_cl, x_t0, x_t1, x_w0, x_w, x_el, v_allv, v_allt, v_srct, v_sall, v_stup, v_nilB, v_rng1, Option.join_some, List.getElem?_cons_zero, List.getElem?_cons_succ, List.length_cons, List.length_nil, List.set_cons_zero, List.set_cons_succ, if_true, if_false, ite_true, ite_false, List.nil_append, List.append_nil, List.cons_append, Option.bind_some, Option.map_some, Option.elim_some, List.map_cons, List.map_nil, List.replicate_succ, List.replicate_zero, Nat.reduceSub, Nat.reduceAdd, Nat.reduceLT, Nat.sub_self, Nat.zero_lt_succ, Nat.lt_add_one, Bool.false_eq_true, Bool.not_true, Bool.not_false, p39.1, p39.2, e1, e2, e3, f0, f2, f4, t12, tm13, e4, ea]
theorem q4 {x0 x1 x2 x3 x4 : Option D} {L : Nat} (hL : m[L]? = some (.lst [.bl true, .bl true, .tup [.int (-1), .int 1], .tup [.int (-3), .int 2], .tup [.int 0, .int 1], .int (-1)])) : ex (runF fds W (n + 7)) W b29s4 [x0, x1, x2, x3, x4, some (.loc L)] m = .ok (.ret (.bl true)) (m ++ [.lst [.bl true, .bl true, .tup [.int (-1), .int 1], .tup [.int (-3), .int 2], .tup [.int 0, .int 1], .int (-1)]]) := by
  have hlt : L < m.length := (List.getElem?_eq_some_iff.mp hL).1
  have pd : ∀ {m : M} {k : Nat}, m[k]? = some (.lst [.bl true, .bl true, .tup [.int (-1), .int 1], .tup [.int (-3), .int 2], .tup [.int 0, .int 1], .int (-1)]) → pyD m 40 (.loc k) = some (.list [.bool true, .bool true, .tuple [.int (-1), .int 1], .tuple [.int (-3), .int 2], .tuple [.int 0, .int 1], .int (-1)]) := fun {m k} h => by
    show (match m[k]? with
      | some (.lst ds) => (ds.mapM (pyD m 39)).map PyData.list
      | some (.frz ds) => (ds.mapM (pyD m 39)).map PyData.list
      | _ => none) = _
    rw [h]; rfl
  have e : eqD (m ++ [.lst [.bl true, .bl true, .tup [.int (-1), .int 1], .tup [.int (-3), .int 2], .tup [.int 0, .int 1], .int (-1)]]) (.loc L) (.loc m.length) = some true := by
    unfold eqD
    rw [pd (by rw [app_keep hlt, hL]), pd app_last]
    rfl
  simp only [b29s4, n_bind, n_bindS, n_go, n_some, n_none, n_nox, n_var, n_gl, n_lit, n_bin, n_neg, n_not, n_cmp, n_chn, n_chnT, n_chnF, n_and, n_or, n_ite, n_call, n_bi, n_biq, n_ix, n_sl, n_srev, n_tup, n_lst, n_lstQ, n_comp, n_compQ, n_nil, n_nilO, n_cons, n_star, n_seqI, n_rg1, n_rg2, n_zip, n_enum, n_varQ, n_callQ, n_ixQ, n_slQ, n_srevQ, n_glQ, n_tupQ, n_binQ, n_biQ, n_biqQ, n_iteQ, n_litO, n_varO, n_binO, v_add, v_sub, v_mul, v_fdiv, v_mod, v_pow, v_adds, v_addt, v_lt, v_le, v_gt, v_ge, v_eq, v_ne, v_eqt, v_net, v_eqs, v_nes, v_eql, v_trb, v_abs, v_min, v_max, v_int, v_intb, v_lent, v_isi, v_ixt, v_tup, v_lst, v_lstq, x_nil, x_seq, x_nx, x_rt, x_bk, x_ct, x_set, x_setK, x_asg, x_asgK, x_par, x_parK, x_sub, x_subK, x_aug, x_augK, x_drop, x_ite, x_whl, x_for, x_ret, x_retN, x_brk, x_cont, x_pass, x_tru, x_wh, x_lnx, x_lct, x_lbk, x_lrt, x_turn, x_putn, x_putt, x_puts0, x_puts, x_ps0, x_ps, x_forv, x_fort, x_forl0, x_forl, x_cF, x_cv, x_ct', x_cl0, x_cl, x_t0, x_t1, x_w0, x_w, x_el, v_allv, v_allt, v_srct, v_sall, v_stup, v_nilB, v_rng1, Option.join_some, List.getElem?_cons_zero, List.getElem?_cons_succ, List.length_cons, List.length_nil, List.set_cons_zero, List.set_cons_succ, if_true, if_false, ite_true, ite_false, List.nil_append, List.append_nil, List.cons_append, Option.bind_some, Option.map_some, Option.elim_some, List.map_cons, List.map_nil, List.replicate_succ, List.replicate_zero, Nat.reduceSub, Nat.reduceAdd, Nat.reduceLT, Nat.sub_self, Nat.zero_lt_succ, Nat.lt_add_one, Bool.false_eq_true, Bool.not_true, Bool.not_false, f2, f6, e]
theorem gc_fst {k : Nat} {b : Bool} {m : M} : (gc k (.bl b) m).1 = .bl b := by
  unfold gc
  split
  · rfl
  · split
    · dsimp only; split <;> rfl
    · rfl
theorem c_ret3 {fs : Fs} {f : FD} {ds : List D} {b : Bool} {m' : M} (h : ds.length = f.np) (e : ex fs W f.body (ds.map some ++ List.replicate (f.n - f.np) none) m = .ok (.ret (.bl b)) m') : callF fs W f ds m = .ok (.bl b) (gc m.length (.bl b) m').2 := by
  rw [c_call h, e]
  dsimp only
  rw [gc_fst]
theorem run (ns : List Int) (hl : ns.length ≤ 63) : ∃ Wn m, runF (P.map DF.fd) Wn 8 29 [.loc 0] [.frz (ns.map D.int)] = .ok (.bl true) m := by
  refine ⟨2 ^ 8000, ?_⟩
  generalize hK : 2 ^ 8000 = W
  have hW : 2 ^ 8000 ≤ W := Nat.le_of_eq hK
  clear hK
  have hf : Flat [.frz (ns.map D.int)] := fun o ho => by
    rw [List.mem_singleton.mp ho]
    clear ho
    show D.undrL 0 (ns.map D.int) = true
    induction ns with
    | nil => rfl
    | cons i l ih =>
      rw [List.map_cons]
      simp only [D.undrL, D.undr, Bool.true_and]
      exact ih (by simp at hl; omega)
  have hlen : biV .len [.frz (ns.map D.int)] [.loc 0] = .ok (.int ns.length) [.frz (ns.map D.int)] := by
    rw [c_lenl]
    have hi : items [.frz (ns.map D.int)] (.loc 0) = some (ns.map D.int) := rfl
    rw [hi]
    simp only [n_bind, n_bindS, n_go, n_some, n_none, n_nox, n_var, n_gl, n_lit, n_bin, n_neg, n_not, n_cmp, n_chn, n_chnT, n_chnF, n_and, n_or, n_ite, n_call, n_bi, n_biq, n_ix, n_sl, n_srev, n_tup, n_lst, n_lstQ, n_comp, n_compQ, n_nil, n_nilO, n_cons, n_star, n_seqI, n_rg1, n_rg2, n_zip, n_enum, n_varQ, n_callQ, n_ixQ, n_slQ, n_srevQ, n_glQ, n_tupQ, n_binQ, n_biQ, n_biqQ, n_iteQ, n_litO, n_varO, n_binO, v_add, v_sub, v_mul, v_fdiv, v_mod, v_pow, v_adds, v_addt, v_lt, v_le, v_gt, v_ge, v_eq, v_ne, v_eqt, v_net, v_eqs, v_nes, v_eql, v_trb, v_abs, v_min, v_max, v_int, v_intb, v_lent, v_isi, v_ixt, v_tup, v_lst, v_lstq, x_nil, x_seq, x_nx, x_rt, x_bk, x_ct, x_set, x_setK, x_asg, x_asgK, x_par, x_parK, x_sub, x_subK, x_aug, x_augK, x_drop, x_ite, x_whl, x_for, x_ret, x_retN, x_brk, x_cont, x_pass, x_tru, x_wh, x_lnx, x_lct, x_lbk, x_lrt, x_turn, x_putn, x_putt, x_puts0, x_puts, x_ps0, x_ps, x_forv, x_fort, x_forl0, x_forl, x_cF, x_cv, x_ct', x_cl0, x_cl, x_t0, x_t1, x_w0, x_w, x_el, v_allv, v_allt, v_srct, v_sall, v_stup, v_nilB, v_rng1, Option.join_some, List.getElem?_cons_zero, List.getElem?_cons_succ, List.length_cons, List.length_nil, List.set_cons_zero, List.set_cons_succ, if_true, if_false, ite_true, ite_false, List.nil_append, List.append_nil, List.cons_append, Option.bind_some, Option.map_some, Option.elim_some, List.map_cons, List.map_nil, List.replicate_succ, List.replicate_zero, Nat.reduceSub, Nat.reduceAdd, Nat.reduceLT, Nat.sub_self, Nat.zero_lt_succ, Nat.lt_add_one, Bool.false_eq_true, Bool.not_true, Bool.not_false, List.length_map]
  obtain ⟨k0, k1⟩ := max6 hl
  generalize hk : (if (if (ns.length : Int) < 6 then (ns.length : Int) else 6) > 1 then (if (ns.length : Int) < 6 then (ns.length : Int) else 6) else 1) = k at k0 k1
  obtain ⟨m1, y1, y2, y3, z0, _, e0⟩ := outer (W := W) (n := 0) (x4 := none) (x5 := none) hW hl ((List.range k.toNat).map fun (j : Nat) => (0 + j : Int)) [.frz (ns.map D.int)] none none none (fun i hi => by
    obtain ⟨j, hj, rfl⟩ := List.mem_map.mp hi
    have := List.mem_range.mp hj
    omega) rfl hf
  have hr : ((List.range k.toNat).map fun (j : Nat) => (0 + j : Int)).map D.int = rangeD 0 k.toNat := by unfold rangeD; rw [List.map_map]; rfl
  rw [hr] at e0
  have s0 : ex (runF fds W 7) W b29s0 [some (.loc 0), none, none, none, none, none] [.frz (ns.map D.int)] = .ok (.nx [some (.loc 0), y1, y2, y3, none, none]) m1 := by
    simp only [b29s0, n_bind, n_bindS, n_go, n_some, n_none, n_nox, n_var, n_gl, n_lit, n_bin, n_neg, n_not, n_cmp, n_chn, n_chnT, n_chnF, n_and, n_or, n_ite, n_call, n_bi, n_biq, n_ix, n_sl, n_srev, n_tup, n_lst, n_lstQ, n_comp, n_compQ, n_nil, n_nilO, n_cons, n_star, n_seqI, n_rg1, n_rg2, n_zip, n_enum, n_varQ, n_callQ, n_ixQ, n_slQ, n_srevQ, n_glQ, n_tupQ, n_binQ, n_biQ, n_biqQ, n_iteQ, n_litO, n_varO, n_binO, v_add, v_sub, v_mul, v_fdiv, v_mod, v_pow, v_adds, v_addt, v_lt, v_le, v_gt, v_ge, v_eq, v_ne, v_eqt, v_net, v_eqs, v_nes, v_eql, v_trb, v_abs, v_min, v_max, v_int, v_intb, v_lent, v_isi, v_ixt, v_tup, v_lst, v_lstq, x_nil, x_seq, x_nx, x_rt, x_bk, x_ct, x_set, x_setK, x_asg, x_asgK, x_par, x_parK, x_sub, x_subK, x_aug, x_augK, x_drop, x_ite, x_whl, x_for, x_ret, x_retN, x_brk, x_cont, x_pass, x_tru, x_wh, x_lnx, x_lct, x_lbk, x_lrt, x_turn, x_putn, x_putt, x_puts0, x_puts, x_ps0, x_ps, x_forv, x_fort, x_forl0, x_forl, x_cF, x_cv, x_ct', x_cl0, x_cl, x_t0, x_t1, x_w0, x_w, x_el, v_allv, v_allt, v_srct, v_sall, v_stup, v_nilB, v_rng1, Option.join_some, List.getElem?_cons_zero, List.getElem?_cons_succ, List.length_cons, List.length_nil, List.set_cons_zero, List.set_cons_succ, if_true, if_false, ite_true, ite_false, List.nil_append, List.append_nil, List.cons_append, Option.bind_some, Option.map_some, Option.elim_some, List.map_cons, List.map_nil, List.replicate_succ, List.replicate_zero, Nat.reduceSub, Nat.reduceAdd, Nat.reduceLT, Nat.sub_self, Nat.zero_lt_succ, Nat.lt_add_one, Bool.false_eq_true, Bool.not_true, Bool.not_false, hlen, hk, rOk_small k0 (show k ≤ 1000 by omega)]
    exact e0
  have fin : ∃ mm, ex (runF fds W 7) W b29 [some (.loc 0), none, none, none, none, none] [.frz (ns.map D.int)] = .ok (.ret (.bl true)) mm := by
    refine ⟨m1 ++ [.lst [.bl true, .bl true]] ++ [.lst [.tup [.int (-1), .int 1], .tup [.int (-3), .int 2], .tup [.int 0, .int 1], .int (-1)]] ++ [.lst [.bl true, .bl true, .tup [.int (-1), .int 1], .tup [.int (-3), .int 2], .tup [.int 0, .int 1], .int (-1)]] ++ [.lst [.bl true, .bl true, .tup [.int (-1), .int 1], .tup [.int (-3), .int 2], .tup [.int 0, .int 1], .int (-1)]], ?_⟩
    unfold b29
    rw [x_seq, s0, n_bind, x_nx, x_seq, q1 (n := 0), n_bind, x_nx, x_seq, q2 (n := 0) hW, n_bind, x_nx, x_seq, q3 (n := 0) hW app_last, n_bind, x_nx, x_seq, q4 (n := 0) (by have h := app_last (m := m1 ++ [.lst [.bl true, .bl true]] ++ [.lst [.tup [.int (-1), .int 1], .tup [.int (-3), .int 2], .tup [.int 0, .int 1], .int (-1)]]) (o := .lst [.bl true, .bl true, .tup [.int (-1), .int 1], .tup [.int (-3), .int 2], .tup [.int 0, .int 1], .int (-1)]); rw [List.length_append] at h; exact h), n_bind, x_rt]
  obtain ⟨mm, e⟩ := fin
  exact ⟨_, (runF_at (f := ⟨1, 6, b29⟩) rfl).trans (c_ret3 rfl e)⟩
end
end K21
set_option Elab.async false
set_option linter.all false
set_option maxRecDepth 100000
set_option maxHeartbeats 0
open PySem PySem.W PySem.Calls PyProof.Rows
theorem PySem.Challenge.cw_onefitsall_k21_whole_numbers_holds : PySem.Challenge.rw_onefitsall_k21_whole_numbers.Holds := by
  w_on; o_law
  refine HandSHeadRun.head_any (r := OpenLaw.row PySem.Challenge.rw_onefitsall_k21_whole_numbers) (q := view (OpenLaw.row PySem.Challenge.rw_onefitsall_k21_whole_numbers).prog [40]) (H := K21.hk) (ob := K21.ob) (M := 2000) (loose := K21.names)
    (d := HandSHeadRun.topDef (OpenLaw.row PySem.Challenge.rw_onefitsall_k21_whole_numbers).prog 40) (kwd := []) K21.ob_eq (by kernel_rfl) (fun s => by kernel_rfl) K21.head (by kernel_rfl) (by kernel_rfl) (by kernel_rfl) (by rfl) (by first | assumption | decide +kernel)
    (by decide +kernel) ⟨rfl, rfl, rfl, rfl, rfl, by decide +kernel⟩ ?hw ?hc
  case hw => w_witness2
  case hc =>
    refine Ev.walk_ev (l := PySem.Challenge.rw_onefitsall_k21_whole_numbers) (n := 63) (lv := 8) (x := "script") rfl (by decide) (by kernel_rfl) ⟨rfl, by decide, by decide⟩ ?F
    intro w mg fa h Y N hm
    have hm2 : mg (K21.d29).x = some (.ref fa) := by
      have e : (HandSHeadRun.topDef (OpenLaw.row PySem.Challenge.rw_onefitsall_k21_whole_numbers).prog 40).name = (K21.d29).x := by kernel_rfl
      rw [← e]
      exact hm
    exact Ev.law_F (L := 29) (n := 63) (lv := 8) (d := K21.d29) K21.checked rfl (by kernel_rfl) rfl K21.run Y N hm2
