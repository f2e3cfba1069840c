import PyProof.Rows.All
import Wide.All
import OpenK.AllK
import Wide.FinOn
import HandS.ForMost
import HandS.Exc
import HandS.Words
import HandS.WordsList
import HandS.CallLocal
import HandS.Walk
import HandS.HeadEnd
import HandS.HeadHook2
import KE.DataEq
import KE.LtData
import KE.DataMinMax
import KE.SortCalls
import HandS.TupAny
import HandS.TupMul
import HandS.IsInst
import KE.GoesEnum
import HandS.Zip
import HandS.Style
import HandS.Codes
import KE.KStateDown
import HandS.Ends
import HandS.More
import HandS.WordsExc
import HandS.Defaults
import HandS.Head0
import HandS.Head1
import HandS.Head2
import HandS.HeadHook1
import PySem.Challenge.RW_heardroom_k64_whole_updates
set_option autoImplicit false
set_option linter.all false
set_option Elab.async false
set_option maxRecDepth 100000
set_option maxHeartbeats 0
/-! My own small language for the Python subset of heardroom and its laws: values, store, evaluator. -/
namespace Hr
open PySem

/-- values: tuples are data; a mutable object is a place in the store -/
inductive D where
  | non | bl (b : Bool) | int (i : Int) | str (x : Str) | tup (xs : List D) | ref (n : Nat) | fn (i : Nat)
  | exn (c : Nat) (vs : List D) | clo (l : Nat) (cs : List D) | fl (xs : List D)
inductive Ob where
  | lst (xs : List D) | dic (kvs : List (D × D)) | lck (kvs : List (D × D)) | ins (c : Nat) (fs : List (Str × D))

structure Sto where
  cells : List Ob
def Sto.len (st : Sto) : Nat := st.cells.length
def Sto.get (st : Sto) (n : Nat) : Option Ob := st.cells[n]?
def Sto.put (st : Sto) (n : Nat) (o : Ob) : Sto := ⟨st.cells.set n o⟩
def Sto.new (st : Sto) (o : Ob) : Sto := ⟨st.cells ++ [o]⟩
def Sto.cut (st : Sto) (n : Nat) : Sto := ⟨st.cells.take n⟩

inductive R (α : Type) where
  | ok (a : α) (st : Sto) | exc (c : Nat) (vs : List D) (st : Sto) | bad
def R.bind {α β : Type} : R α → (α → Sto → R β) → R β
  | .ok a st, f => f a st
  | .exc c vs st, _ => .exc c vs st
  | .bad, _ => .bad
/-- a value or nothing -/
def ofO {α : Type} (o : Option α) (st : Sto) : R α := match o with
  | some a => .ok a st
  | none => .bad
def grd {α : Type} (b : Bool) (r : R α) : R α := match b with
  | true => r
  | false => .bad

abbrev Env := List (Option D)

/-! ### pure data -/
mutual
def eqT : D → D → Bool
  | .non, .non => true
  | .bl a, .bl b => a == b
  | .bl a, .int j => (if a then 1 else 0) == j
  | .int i, .bl b => i == (if b then 1 else 0)
  | .int i, .int j => i == j
  | .str x, .str y => decide (x = y)
  | .tup xs, .tup ys => eqTs xs ys
  | _, _ => false
def eqTs : List D → List D → Bool
  | [], [] => true
  | x :: xs, y :: ys => eqT x y && eqTs xs ys
  | _, _ => false
end
/-- plain data of a depth -/
def okD : Nat → D → Bool
  | _, .non => true
  | _, .bl _ => true
  | _, .int _ => true
  | _, .str _ => true
  | 0, .tup _ => false
  | n + 1, .tup xs => xs.all (okD n)
  | _, _ => false
def strLt (x y : Str) : Bool := decide (x.cps.toList < y.cps.toList)
mutual
def ltB : D → D → Bool
  | .int i, .int j => decide (i < j)
  | .str x, .str y => strLt x y
  | .tup xs, .tup ys => ltBs xs ys
  | _, _ => false
def ltBs : List D → List D → Bool
  | [], [] => false
  | [], _ :: _ => true
  | _ :: _, [] => false
  | x :: xs, y :: ys => match eqT x y with
    | true => ltBs xs ys
    | false => ltB x y
end
mutual
/-- two values of the same kinds of ints, texts, tuples: any order between them is told -/
def cmpb : D → D → Bool
  | .int _, .int _ => true
  | .str _, .str _ => true
  | .tup xs, .tup ys => cmpbs xs ys
  | _, _ => false
def cmpbs : List D → List D → Bool
  | x :: xs, y :: ys => cmpb x y && cmpbs xs ys
  | _, _ => true
end
def sortD (xs : List D) : List D := xs.mergeSort fun a b => !ltB b a

mutual
/-- every place is below n -/
def clsd (n : Nat) : D → Bool
  | .ref m => decide (m < n)
  | .tup xs => clsds n xs
  | .exn _ xs => clsds n xs
  | .clo _ xs => clsds n xs
  | .fl xs => clsds n xs
  | _ => true
def clsds (n : Nat) : List D → Bool
  | [] => true
  | x :: xs => clsd n x && clsds n xs
end
def clsO (n : Nat) : Ob → Bool
  | .lst xs => clsds n xs
  | .dic kvs => kvs.all fun p => clsd n p.1 && clsd n p.2
  | .lck kvs => kvs.all fun p => clsd n p.1 && clsd n p.2
  | .ins _ fs => fs.all fun p => clsd n p.2
open Classical in
/-- behind a call: what nothing leads to any more is forgotten -/
noncomputable def trim (st : Sto) (d : D) (st' : Sto) : Sto :=
  if clsd st.len d = true ∧ ∀ i, i < st.len → st'.get i = st.get i ∨ ∃ o, st'.get i = some o ∧ clsO st.len o = true then st'.cut st.len else st'

/-! ### syntax -/
inductive BOp where
  | add | sub | mul | fdiv | mod | pow
inductive COp where
  | eq | ne | lt | le | gt | ge | isin | notin
inductive Ty where
  | int | bool | str | tuple | list | dict | own (c : Nat)
inductive Bi where
  | len | int | str | repr | tuple | list | sum | any | all | sorted | max | min
inductive Bm where
  | append | extend | pop | remove | index | count | items | values | get1 | get2 | join | split | upper | replace
/-- targets -/
inductive T where
  | nm (i : Nat) | tp (ts : List T)
mutual
inductive E where
  | var (i : Nat)
  | non | bl (b : Bool) | int (i : Int) | str (s : Str)
  | glo (g : Nat) | fnv (f : Nat)
  | bin (op : BOp) (a b : E)
  | neg (a : E) | not (a : E) | and (a b : E) | or (a b : E)
  | cmp (op : COp) (a b : E)
  | chn (op op2 : COp) (a b c : E)
  | isN (a : E) | isnN (a : E)
  | isi (a : E) (ts : List Ty)
  | ite (c a b : E)
  | idx (a b : E)
  | sli (a : E) (lo hi : Es)
  | srev (a : E)
  | sstep (a lo st : E)
  | tup (es : Es) | lst (es : Es) | dct (es : Es)
  | call (f : Nat) (es : Es)
  | callv (i : Nat) (es : Es)
  | meth (a : E) (m : Str) (es : Es)
  | make (c : Nat) (es : Es)
  | fld (a : E) (f : Str)
  | bi (b : Bi) (es : Es)
  | bm (m : Bm) (a : E) (es : Es)
  | lc (elt : E) (cl : Cl)
  | fz (b : Bi) (elt : E) (cl : Cl)
  | fzd (b : Bi) (elt : E) (cl : Cl) (dflt : E)
  | ssc (elt : E) (cl : Cl)
  | dc (k v : E) (cl : Cl)
  | lam (l : Nat) (caps : List Nat)
inductive Es where
  | nil | cons (e : E) (es : Es)
/-- one clause or two; own: the slots of the block's own names -/
inductive Cl where
  | one (own : List Nat) (t : T) (it : I) (cond : Es)
  | two (own : List Nat) (t : T) (it : I) (cond : Es) (t2 : T) (it2 : I) (cond2 : Es)
inductive I where
  | ex (e : E) | rng (es : Es) | enum (e : E) | zip (a b : E) | items (e : E) | values (e : E)
end
mutual
inductive S where
  | asg (t : T) (e : E)
  | seti (a i e : E)
  | setf (a : E) (f : Str) (e : E)
  | aug (i : Nat) (op : BOp) (e : E)
  | augi (a i : E) (op : BOp) (e : E)
  | augf (a : E) (f : Str) (op : BOp) (e : E)
  | expr (e : E)
  | ret (e : E) | retN
  | iff (c : E) (a b : Ss)
  | forr (t : T) (it : I) (b : Ss)
  | whil (c : E) (b : Ss)
  | brk | cnt | pss
  | rse (c : Nat) (es : Es)
  | tri (b : Ss) (cls : Nat) (slot : Option Nat) (h : Ss)
  | deli (a i : E)
inductive Ss where
  | nil | cons (s : S) (ss : Ss)
end

/-! ### the program around -/
structure Fd where
  many : Nat        -- parameters
  slots : Nat       -- all names
  body : Ss
structure Pg where
  con : Nat → Option D
  fd : Nat → Option Fd
  meth : Nat → Str → Option Nat
  init : Nat → Option Nat
  sub : Nat → Nat → Bool
  flds : Nat → List Str
abbrev Calls := D → List D → Sto → R D

/-! ### operations on values -/
def big64 : Int := 18446744073709551616
def addV (x y : D) (st : Sto) : R D := match x, y with
  | .int i, .int j => .ok (.int (i + j)) st
  | .str a, .str b => grd (decide (a.length + b.length ≤ sizeLine)) (.ok (.str (a ++ b)) st)
  | .tup xs, .tup ys => grd (decide (xs.length + ys.length ≤ sizeLine)) (.ok (.tup (xs ++ ys)) st)
  | .ref p, .ref q => match st.get p, st.get q with
    | some (.lst xs), some (.lst ys) => grd (decide (xs.length + ys.length ≤ sizeLine)) (.ok (.ref st.len) (st.new (.lst (xs ++ ys))))
    | _, _ => .bad
  | _, _ => .bad
def mulOk (i j : Int) : Bool := (decide (-big64 < i) && decide (i < big64)) || (decide (-big64 < j) && decide (j < big64))
def repD (xs : List D) (k : Int) : List D := (List.replicate k.toNat xs).flatten
def big63 : Int := 9223372036854775808
def repOk (n : Nat) (k : Int) : Bool := decide (-big63 ≤ k) && decide (k < big63) && decide (n * k.toNat ≤ sizeLine)
def repOkT (n : Nat) (k : Int) : Bool := decide (0 < n) && decide (2 ≤ k) && decide (k ≤ 1000) && decide (n ≤ 1000)
def mulV (x y : D) (st : Sto) : R D := match x, y with
  | .int i, .int j => grd (mulOk i j) (.ok (.int (i * j)) st)
  | .tup xs, .int k => grd (repOkT xs.length k) (.ok (.tup (repD xs k)) st)
  | .ref p, .int k => match st.get p with
    | some (.lst xs) => grd (repOk xs.length k) (.ok (.ref st.len) (st.new (.lst (repD xs k))))
    | _ => .bad
  | _, _ => .bad
def binV (op : BOp) (x y : D) (st : Sto) : R D := match op with
  | .add => addV x y st
  | .mul => mulV x y st
  | .sub => (match x, y with
    | .int i, .int j => .ok (.int (i - j)) st
    | _, _ => .bad)
  | .fdiv => (match x, y with
    | .int i, .int j => grd (decide (j ≠ 0) && decide (j.natAbs < 1073741824)) (.ok (.int (i.fdiv j)) st)
    | _, _ => .bad)
  | .mod => (match x, y with
    | .int i, .int j => grd (decide (j ≠ 0)) (.ok (.int (i.fmod j)) st)
    | _, _ => .bad)
  | .pow => (match x, y with
    | .int i, .int j => grd (decide (0 ≤ j) && decide (j ≤ 1000000) && decide (i.natAbs < 18446744073709551616)) (.ok (.int (i ^ j.toNat)) st)
    | _, _ => .bad)
def augV (op : BOp) (x y : D) : Option D := match op, x, y with
  | .add, .int i, .int j => some (.int (i + j))
  | .sub, .int i, .int j => some (.int (i - j))
  | _, _, _ => none
def eqV (x y : D) (st : Sto) : Option Bool := match x, y with
  | .ref p, .ref q => (match st.get p, st.get q with
    | some (.lst xs), some (.lst ys) => if xs.all (okD 40) && ys.all (okD 40) then some (eqTs xs ys) else none
    | _, _ => none)
  | _, _ => if okD 40 x && okD 40 y then some (eqT x y) else none
def inB (x : D) (xs : List D) : Bool := xs.any fun y => eqT y x
def isKey (x : D) (kvs : List (D × D)) : Bool := kvs.any fun p => eqT p.1 x
def inV (x y : D) (st : Sto) : Option Bool := match y with
  | .tup xs => if okD 40 x && xs.all (okD 40) then some (inB x xs) else none
  | .str s => (match x with
    | .str c => (match c.cps.toList with
      | [k] => some (decide (k ∈ s.cps.toList))
      | _ => none)
    | _ => none)
  | .ref p => (match st.get p with
    | some (.lst xs) => if okD 40 x && xs.all (okD 40) then some (inB x xs) else none
    | _ => none)
  | _ => none
def cmpV (op : COp) (x y : D) (st : Sto) : Option Bool := match op with
  | .eq => eqV x y st
  | .ne => (eqV x y st).map not
  | .lt => if okD 40 x && okD 40 y && cmpb x y then some (ltB x y) else none
  | .le => (match x, y with
    | .int i, .int j => some (decide (i ≤ j))
    | _, _ => none)
  | .gt => (match x, y with
    | .int i, .int j => some (decide (j < i))
    | _, _ => none)
  | .ge => (match x, y with
    | .int i, .int j => some (decide (j ≤ i))
    | _, _ => none)
  | .isin => inV x y st
  | .notin => (inV x y st).map not
def isTy (G : Pg) (x : D) (st : Sto) (t : Ty) : Option Bool := match x, t with
  | .int _, .int => some true
  | .bl _, .int => some true
  | .bl _, .bool => some true
  | .str _, .str => some true
  | .tup _, .tuple => some true
  | .ref p, t => (match st.get p, t with
    | some (.lst _), .list => some true
    | some (.lst _), .own _ => none
    | some (.lst _), _ => some false
    | some (.dic _), .dict => some true
    | some (.dic _), .own _ => none
    | some (.dic _), _ => some false
    | _, _ => none)
  | .exn _ _, _ => none
  | .fn _, _ => none
  | .clo _ _, _ => none
  | .fl _, _ => none
  | _, .own _ => none
  | _, _ => some false
def isTys (G : Pg) (x : D) (st : Sto) : List Ty → Option Bool
  | [] => some false
  | t :: ts => (match isTy G x st t with
    | some true => some true
    | some false => isTys G x st ts
    | none => none)
/-- an index from the front or the back -/
def ixN (n : Nat) (i : Int) : Option Nat := if 0 ≤ i then (if i < n then some i.toNat else none) else if -(n : Int) ≤ i then some (i + n).toNat else none
def atI {α : Type} (xs : List α) (i : Int) : Option α := (ixN xs.length i).bind fun j => xs[j]?
def lookD (x : D) : List (D × D) → Option D
  | [] => none
  | (k, v) :: r => if eqT k x then some v else lookD x r
def idxV (x i : D) (st : Sto) : Option D := match x, i with
  | .tup xs, .int k => atI xs k
  | .fl xs, .int k => atI xs k
  | .str z, .int k => if z.length ≤ sizeLine then (atI z.cps.toList k).map fun c => .str ⟨#[c]⟩ else none
  | .ref p, i => (match st.get p, i with
    | some (.lst xs), .int k => atI xs k
    | _, _ => none)
  | _, _ => none
def sIx (n d : Nat) : Option Int → Nat
  | none => d
  | some k => if k < 0 then (k + n).toNat else min k.toNat n
def cut {α : Type} (xs : List α) (lo hi : Option Int) : List α := (xs.drop (sIx xs.length 0 lo)).take (sIx xs.length xs.length hi - sIx xs.length 0 lo)
def sliV (x : D) (lo hi : Option Int) (st : Sto) : R D := match x with
  | .tup xs => .ok (.tup (cut xs lo hi)) st
  | .str z => grd (decide (z.length ≤ sizeLine)) (.ok (.str ⟨(cut z.cps.toList lo hi).toArray⟩) st)
  | .ref p => (match st.get p with
    | some (.lst xs) => .ok (.ref st.len) (st.new (.lst (cut xs lo hi)))
    | _ => .bad)
  | _ => .bad
def putD (x v : D) : List (D × D) → List (D × D)
  | [] => [(x, v)]
  | (k, w) :: r => if eqT k x then (k, v) :: r else (k, w) :: putD x v r
/-- keys that may stand in a dict -/
def keyOk : D → Bool
  | .int _ => true
  | .str _ => true
  | .tup xs => xs.all fun x => match x with
    | .int _ => true
    | .str _ => true
    | _ => false
  | _ => false
def asInts : List D → Option (List Int)
  | [] => some []
  | .int i :: r => (asInts r).map (i :: ·)
  | _ => none
def asBls : List D → Option (List Bool)
  | [] => some []
  | .bl b :: r => (asBls r).map (b :: ·)
  | _ => none
def maxI (a : Int) : List Int → Int
  | [] => a
  | b :: r => maxI (if b > a then b else a) r
def minI (a : Int) : List Int → Int
  | [] => a
  | b :: r => minI (if b < a then b else a) r
/-- what a built-in function makes of the items of one list -/
def biL (b : Bi) (xs : List D) (st : Sto) : R D := match b with
  | .len => .ok (.int xs.length) st
  | .tuple => .ok (.tup xs) st
  | .list => .ok (.ref st.len) (st.new (.lst xs))
  | .sum => (match asInts xs with
    | some ns => .ok (.int ns.sum) st
    | none => .bad)
  | .any => (match asBls xs with
    | some bs => .ok (.bl (bs.any id)) st
    | none => .bad)
  | .all => (match asBls xs with
    | some bs => .ok (.bl (bs.all id)) st
    | none => .bad)
  | .sorted => grd (xs.all fun x => okD 40 x && xs.all fun y => cmpb x y) (.ok (.ref st.len) (st.new (.lst (sortD xs))))
  | .max => (match asInts xs with
    | some (a :: r) => .ok (.int (maxI a r)) st
    | _ => .bad)
  | .min => (match asInts xs with
    | some (a :: r) => .ok (.int (minI a r)) st
    | _ => .bad)
  | _ => .bad
/-- .. of a tuple's -/
def biT (b : Bi) (xs : List D) (st : Sto) : R D := match b with
  | .len => .ok (.int xs.length) st
  | .tuple => .ok (.tup xs) st
  | .list => .ok (.ref st.len) (st.new (.lst xs))
  | _ => .bad
/-- .. of one value -/
def biO (b : Bi) (x : D) (st : Sto) : R D := match x with
  | .str z => (match b with
    | .len => grd (decide (z.length ≤ sizeLine)) (.ok (.int z.length) st)
    | _ => .bad)
  | .int i => (match b with
    | .int => .ok (.int i) st
    | _ => .bad)
  | .bl k => (match b with
    | .int => .ok (.int (if k then 1 else 0)) st
    | _ => .bad)
  | .tup xs => biT b xs st
  | .fl xs => (match b with
    | .len => .ok (.int xs.length) st
    | _ => .bad)
  | .ref p => (match st.get p with
    | some (.lst xs) => biL b xs st
    | _ => .bad)
  | _ => .bad
def biV (b : Bi) (vs : List D) (st : Sto) : R D := match vs with
  | [x] => biO b x st
  | [.int i, .int j] => (match b with
    | .max => .ok (.int (if j > i then j else i)) st
    | .min => .ok (.int (if j < i then j else i)) st
    | _ => .bad)
  | _ => .bad
/-- a method may be asked of such a value -/
def bmTy (m : Bm) (x : D) (st : Sto) : Bool := match x with
  | .ref p => (match m, st.get p with
    | .append, some (.lst _) => true
    | .extend, some (.lst _) => true
    | .pop, some (.lst _) => true
    | _, _ => false)
  | _ => false
def bmV (m : Bm) (x : D) (vs : List D) (st : Sto) : R D := match x with
  | .ref p => (match m, st.get p, vs with
    | .append, some (.lst xs), [y] => grd (decide (xs.length < sizeLine)) (.ok .non (st.put p (.lst (xs ++ [y]))))
    | .extend, some (.lst xs), [.ref q] => (match st.get q with
      | some (.lst ys) => grd (decide (xs.length + ys.length ≤ sizeLine)) (.ok .non (st.put p (.lst (xs ++ ys))))
      | _ => .bad)
    | .pop, some (.lst xs), [] => (match xs[xs.length - 1]? with
      | some y => .ok y (st.put p (.lst xs.dropLast))
      | none => .bad)
    | _, _, _ => .bad)
  | _ => .bad
def asgT : T → D → Env → Option Env
  | .nm i, d, env => some (env.set i (some d))
  | .tp ts, .tup xs, env => asgTs ts xs env
  | .tp _, _, _ => none
where asgTs : List T → List D → Env → Option Env
  | [], [], env => some env
  | t :: ts, x :: xs, env => (asgT t x env).bind (asgTs ts xs)
  | _, _, _ => none
def T.slots : T → List Nat
  | .nm i => [i]
  | .tp ts => slotss ts
where slotss : List T → List Nat
  | [] => []
  | t :: ts => t.slots ++ slotss ts
def wipe (env : Env) : List Nat → Env
  | [] => env
  | i :: is => (wipe env is).set i none
def isNonD : D → Bool
  | .non => true
  | _ => false
def rngI (lo hi : Int) : List D := (List.range (hi - lo).toNat).map fun (i : Nat) => .int (lo + (i : Int))
def small62 (i : Int) : Bool := decide (-(2 ^ 62) ≤ i) && decide (i < 2 ^ 62)
def rngV (vs : List D) : Option (List D) := match vs with
  | [.int j] => if small62 j then some (rngI 0 j) else none
  | [.int i, .int j] => if small62 i && small62 j then some (rngI i j) else none
  | [.int i, .int j, .int (-1)] => if decide (-(2 ^ 61) ≤ i) && decide (i < 2 ^ 61) && decide (-(2 ^ 61) ≤ j) && decide (j < 2 ^ 61) then some ((List.range (i - j).toNat).map fun k => .int (i - (k : Nat))) else none
  | _ => none
def strItems (z : Str) : List D := z.cps.toList.map fun c => .str ⟨#[c]⟩
def exItems (x : D) (st : Sto) : Option (List D) := match x with
  | .tup xs => some xs
  | .str z => some (strItems z)
  | .ref p => (match st.get p with
    | some (.lst xs) => some xs
    | _ => none)
  | _ => none
def enumD (xs : List D) : List D := (List.range xs.length).zipWith (fun i x => .tup [.int (i : Nat), x]) xs
def zipD (xs ys : List D) : List D := xs.zipWith (fun x y => .tup [x, y]) ys

/-! ### walks -/
inductive Lk where
  | no | li (p : Nat) (xs : List D)
/-- what is walked stands as it stood -/
def Lk.stands : Lk → Sto → Prop
  | .no, _ => True
  | .li p xs, st => st.get p = some (.lst xs)
def exI (x : D) (st : Sto) : Option (List D × Lk) := match x with
  | .tup xs => some (xs, .no)
  | .str z => some (strItems z, .no)
  | .ref p => (match st.get p with
    | some (.lst xs) => some (xs, .li p xs)
    | _ => none)
  | _ => none
def enumI (x : D) (st : Sto) : Option (List D × Lk) := match x with
  | .tup xs => some (enumD xs, .no)
  | .ref p => (match st.get p with
    | some (.lst xs) => some (enumD xs, .li p xs)
    | _ => none)
  | _ => none
def zipI (x y : D) (st : Sto) : Option (List D × Lk) := match x, y with
  | .tup xs, .tup ys => some (zipD xs ys, .no)
  | .ref p, .tup ys => (match st.get p with
    | some (.lst xs) => some (zipD xs ys, .li p xs)
    | _ => none)
  | .tup xs, .ref q => (match st.get q with
    | some (.lst ys) => some (zipD xs ys, .li q ys)
    | _ => none)
  | .ref p, .ref q => (match st.get p, st.get q with
    | some (.lst xs), some (.lst ys) => if p = q then some (zipD xs ys, .li p xs) else none
    | _, _ => none)
  | _, _ => none
def itemsI (x : D) (st : Sto) : Option (List D × Lk) := none
def valuesI (x : D) (st : Sto) : Option (List D × Lk) := none

inductive SR where
  | nx (env : Env) (st : Sto) | rt (d : D) (st : Sto) | bk (env : Env) (st : Sto) | ct (env : Env) (st : Sto)
  | exc (c : Nat) (vs : List D) (env : Env) (st : Sto) | bad
/-- an expression's answer within a statement -/
def R.to (r : R D) (env : Env) (f : D → Sto → SR) : SR := match r with
  | .ok d st => f d st
  | .exc c vs st => .exc c vs env st
  | .bad => .bad
def R.toL (r : R (List D)) (env : Env) (f : List D → Sto → SR) : SR := match r with
  | .ok d st => f d st
  | .exc c vs st => .exc c vs env st
  | .bad => .bad
def R.toI (r : R (List D × Lk)) (env : Env) (f : List D × Lk → Sto → SR) : SR := match r with
  | .ok d st => f d st
  | .exc c vs st => .exc c vs env st
  | .bad => .bad
def SR.seq (r : SR) (f : Env → Sto → SR) : SR := match r with
  | .nx env st => f env st
  | r => r
/-- a loop's turn, then the rest of the loop -/
def SR.turn (r : SR) (f : Env → Sto → SR) : SR := match r with
  | .nx env st => f env st
  | .ct env st => f env st
  | .bk env st => .nx env st
  | r => r
/-- the truth of a value -/
def truB (d : D) (st : Sto) : Option Bool := match d with
  | .bl b => some b
  | _ => none
open Classical in
noncomputable def forL (lk : Lk) (t : T) (body : Env → Sto → SR) : List D → Env → Sto → SR
  | [], env, st => if lk.stands st then .nx env st else .bad
  | x :: xs, env, st => if lk.stands st then (match asgT t x env with
    | none => .bad
    | some env1 => (body env1 st).turn (forL lk t body xs)) else .bad
open Classical in
/-- a comprehension's items: the test, then the element -/
noncomputable def cmpL (lk : Lk) (own : List Nat) (t : T) (cond : Env → Sto → R Bool) (elt : Env → Sto → R (List D)) (env : Env) : List D → Sto → R (List D)
  | [], st => if lk.stands st then .ok [] st else .bad
  | x :: xs, st => if lk.stands st then (match asgT t x (wipe env own) with
    | none => .bad
    | some env1 => (cond env1 st).bind fun b st1 => (match b with
      | true => (elt env1 st1).bind fun ys st2 => (cmpL lk own t cond elt env xs st2).bind fun zs st3 => .ok (ys ++ zs) st3
      | false => cmpL lk own t cond elt env xs st1)) else .bad
def wlF (c : Env → Sto → R D) (b : Env → Sto → SR) : Nat → Env → Sto → SR
  | 0, _, _ => .bad
  | n + 1, env, st => (c env st).to env fun d st1 => match truB d st1 with
    | some true => (b env st1).turn (wlF c b n)
    | some false => .nx env st1
    | none => .bad
open Classical in
noncomputable def whl (c : Env → Sto → R D) (b : Env → Sto → SR) (env : Env) (st : Sto) : SR :=
  if h : ∃ n, wlF c b n env st ≠ .bad then wlF c b h.choose env st else .bad
def truR (r : R D) : R Bool := r.bind fun d st => ofO (truB d st) st
def oneL (r : R D) : R (List D) := r.bind fun d st => .ok [d] st
def intO (r : R (List D)) : R (Option Int) := r.bind fun vs st => match vs with
  | [] => .ok none st
  | [.int i] => .ok (some i) st
  | _ => .bad
def dedup : List D → List D
  | [] => []
  | x :: xs => if inB x xs then dedup xs else x :: dedup xs
def pairUp : List D → Option (List (D × D))
  | [] => some []
  | k :: v :: r => (pairUp r).map ((k, v) :: ·)
  | _ => none
def putAll : List (D × D) → List (D × D) → List (D × D)
  | [], d => d
  | (k, v) :: r, d => putAll r (putD k v d)
def rev (x : D) (st : Sto) : R D := match x with
  | .tup xs => .ok (.tup xs.reverse) st
  | .ref p => (match st.get p with
    | some (.lst xs) => .ok (.ref st.len) (st.new (.lst xs.reverse))
    | _ => .bad)
  | _ => .bad
def makeV (G : Pg) (C : Calls) (c : Nat) (vs : List D) (st : Sto) : R D := match G.init c with
  | some f => (C (.fn f) (.ref st.len :: vs) (st.new (.ins c []))).bind fun d st2 => match d with
    | .non => .ok (.ref st.len) st2
    | _ => .bad
  | none => .bad
def methV (G : Pg) (x : D) (m : Str) (st : Sto) : Option Nat := match x with
  | .ref p => (match st.get p with
    | some (.ins c fs) => (match fs.lookup m with
      | none => G.meth c m
      | some _ => none)
    | _ => none)
  | _ => none
def fldV (G : Pg) (x : D) (f : Str) (st : Sto) : Option D := match x with
  | .ref p => (match st.get p with
    | some (.ins _ fs) => fs.lookup f
    | _ => none)
  | .exn c vs => ((G.flds c).zip vs).lookup f
  | _ => none
def putF (f : Str) (v : D) : List (Str × D) → List (Str × D)
  | [] => [(f, v)]
  | (g, w) :: r => if g = f then (f, v) :: r else (g, w) :: putF f v r
def setfV (x : D) (f : Str) (v : D) (st : Sto) : Option Sto := match x with
  | .ref p => (match st.get p with
    | some (.ins c fs) => if fs.length < 1000 then some (st.put p (.ins c (putF f v fs))) else none
    | _ => none)
  | _ => none
def setiV (x i v : D) (st : Sto) : Option Sto := match x with
  | .ref p => (match st.get p, i with
    | some (.lst xs), .int k => (ixN xs.length k).map fun j => st.put p (.lst (xs.set j v))
    | _, _ => none)
  | _ => none
def delD (x : D) : List (D × D) → List (D × D)
  | [] => []
  | (k, w) :: r => if eqT k x then r else (k, w) :: delD x r
def deliV (x i : D) (st : Sto) : Option Sto := match x with
  | .ref p => (match st.get p with
    | some (.dic kvs) => if keyOk i && isKey i kvs then some (st.put p (.dic (delD i kvs))) else none
    | _ => none)
  | _ => none
def vars (env : Env) : List Nat → Option (List D)
  | [] => some []
  | i :: is => (match env[i]? with
    | some (some d) => (vars env is).map (d :: ·)
    | _ => none)
def stO (o : Option Sto) (env : Env) : SR := match o with
  | some st => .nx env st
  | none => .bad
section
variable (G : Pg) (C : Calls)
mutual
noncomputable def evE : E → Env → Sto → R D
  | .var i, env, st => (match env[i]? with
    | some (some d) => .ok d st
    | _ => .bad)
  | .non, _, st => .ok .non st
  | .bl b, _, st => .ok (.bl b) st
  | .int i, _, st => .ok (.int i) st
  | .str s, _, st => .ok (.str s) st
  | .glo g, _, st => ofO (G.con g) st
  | .fnv f, _, st => .ok (.fn f) st
  | .bin op a b, env, st => (evE a env st).bind fun x st1 => (evE b env st1).bind fun y st2 => binV op x y st2
  | .neg a, env, st => (evE a env st).bind fun x st1 => (match x with
    | .int i => .ok (.int (-i)) st1
    | _ => .bad)
  | .not a, env, st => (truR (evE a env st)).bind fun b st1 => .ok (.bl (!b)) st1
  | .and a b, env, st => (truR (evE a env st)).bind fun k st1 => (match k with
    | true => evE b env st1
    | false => .ok (.bl false) st1)
  | .or a b, env, st => (truR (evE a env st)).bind fun k st1 => (match k with
    | true => .ok (.bl true) st1
    | false => evE b env st1)
  | .cmp op a b, env, st => (evE a env st).bind fun x st1 => (evE b env st1).bind fun y st2 => (ofO (cmpV op x y st2) st2).bind fun k st3 => .ok (.bl k) st3
  | .chn op op2 a b c, env, st => (evE a env st).bind fun x st1 => (evE b env st1).bind fun y st2 => (ofO (cmpV op x y st2) st2).bind fun k st3 => (match k with
    | true => (evE c env st3).bind fun z st4 => (ofO (cmpV op2 y z st4) st4).bind fun k st5 => .ok (.bl k) st5
    | false => .ok (.bl false) st3)
  | .isN a, env, st => (evE a env st).bind fun x st1 => .ok (.bl (isNonD x)) st1
  | .isnN a, env, st => (evE a env st).bind fun x st1 => .ok (.bl (!isNonD x)) st1
  | .isi a ts, env, st => (evE a env st).bind fun x st1 => (ofO (isTys G x st1 ts) st1).bind fun k st2 => .ok (.bl k) st2
  | .ite c a b, env, st => (truR (evE c env st)).bind fun k st1 => (match k with
    | true => evE a env st1
    | false => evE b env st1)
  | .idx a b, env, st => (evE a env st).bind fun x st1 => (evE b env st1).bind fun y st2 => ofO (idxV x y st2) st2
  | .sli a lo hi, env, st => (evE a env st).bind fun x st1 => (intO (evEs lo env st1)).bind fun l st2 => (intO (evEs hi env st2)).bind fun h st3 => sliV x l h st3
  | .srev a, env, st => (evE a env st).bind fun x st1 => rev x st1
  | .sstep _ _ _, _, _ => .bad
  | .tup es, env, st => (evEs es env st).bind fun vs st1 => grd (decide (vs.length ≤ sizeLine)) (.ok (.tup vs) st1)
  | .lst es, env, st => (evEs es env st).bind fun vs st1 => grd (decide (vs.length ≤ sizeLine)) (.ok (.ref st1.len) (st1.new (.lst vs)))
  | .dct es, env, st => (evEs es env st).bind fun vs st1 => (ofO (pairUp vs) st1).bind fun kvs st2 => grd (kvs.all fun p => keyOk p.1) (.ok (.ref st2.len) (st2.new (.dic (putAll kvs []))))
  | .call f es, env, st => (evEs es env st).bind fun vs st1 => C (.fn f) vs st1
  | .callv i es, env, st => (match env[i]? with
    | some (some d) => (evEs es env st).bind fun vs st1 => C d vs st1
    | _ => .bad)
  | .meth a m es, env, st => (evE a env st).bind fun x st1 => (ofO (methV G x m st1) st1).bind fun f st2 => (evEs es env st2).bind fun vs st3 => C (.fn f) (x :: vs) st3
  | .make c es, env, st => (evEs es env st).bind fun vs st1 => makeV G C c vs st1
  | .fld a f, env, st => (evE a env st).bind fun x st1 => ofO (fldV G x f st1) st1
  | .bi b es, env, st => (evEs es env st).bind fun vs st1 => biV b vs st1
  | .bm m a es, env, st => (evE a env st).bind fun x st1 => grd (bmTy m x st1) ((evEs es env st1).bind fun vs st2 => bmV m x vs st2)
  | .lc elt cl, env, st => (evCl cl (fun env st => oneL (evE elt env st)) env st).bind fun vs st1 => grd (decide (vs.length ≤ sizeLine)) (.ok (.ref st1.len) (st1.new (.lst vs)))
  | .fz b elt cl, env, st => (evCl cl (fun env st => oneL (evE elt env st)) env st).bind fun vs st1 => grd (decide (vs.length ≤ sizeLine)) (biL b vs st1)
  | .fzd b elt cl d, env, st => (evCl cl (fun env st => oneL (evE elt env st)) env st).bind fun vs st1 => (evE d env st1).bind fun x st2 => (match vs with
    | [] => .ok x st2
    | vs => grd (decide (vs.length ≤ sizeLine)) (biL b vs st2))
  | .ssc elt cl, env, st => (evCl cl (fun env st => oneL (evE elt env st)) env st).bind fun vs st1 => grd (vs.all keyOk) (biL .sorted (dedup vs) st1)
  | .dc k v cl, env, st => (evCl cl (fun env st => (evE k env st).bind fun x st1 => (evE v env st1).bind fun y st2 => .ok [x, y] st2) env st).bind fun vs st1 => (ofO (pairUp vs) st1).bind fun kvs st2 =>
      grd (kvs.all fun p => keyOk p.1) (.ok (.ref st2.len) (st2.new (.dic (putAll kvs []))))
  | .lam l caps, env, st => (ofO (vars env caps) st).bind fun cs st1 => .ok (.clo l cs) st1
noncomputable def evEs : Es → Env → Sto → R (List D)
  | .nil, _, st => .ok [] st
  | .cons e es, env, st => (evE e env st).bind fun x st1 => (evEs es env st1).bind fun xs st2 => .ok (x :: xs) st2
noncomputable def evT : Es → Env → Sto → R Bool
  | .nil, _, st => .ok true st
  | .cons e es, env, st => (truR (evE e env st)).bind fun k st1 => (match k with
    | true => evT es env st1
    | false => .ok false st1)
noncomputable def evCl : Cl → (Env → Sto → R (List D)) → Env → Sto → R (List D)
  | .one own t it cond, elt, env, st => (evI it env st).bind fun q st1 => cmpL q.2 own t (evT cond) elt env q.1 st1
  | .two own t it cond t2 it2 cond2, elt, env, st => (evI it env st).bind fun q st1 => cmpL q.2 own t (evT cond)
      (fun env1 st2 => (evI it2 env1 st2).bind fun q2 st3 => cmpL q2.2 t2.slots t2 (evT cond2) elt env1 q2.1 st3) env q.1 st1
noncomputable def evI : I → Env → Sto → R (List D × Lk)
  | .ex e, env, st => (evE e env st).bind fun x st1 => ofO (exI x st1) st1
  | .rng es, env, st => (evEs es env st).bind fun vs st1 => (ofO (rngV vs) st1).bind fun xs st2 => .ok (xs, .no) st2
  | .enum e, env, st => (evE e env st).bind fun x st1 => ofO (enumI x st1) st1
  | .zip a b, env, st => (evE a env st).bind fun x st1 => (evE b env st1).bind fun y st2 => ofO (zipI x y st2) st2
  | .items e, env, st => (evE e env st).bind fun x st1 => ofO (itemsI x st1) st1
  | .values e, env, st => (evE e env st).bind fun x st1 => ofO (valuesI x st1) st1
end
mutual
noncomputable def exS : S → Env → Sto → SR
  | .asg t e, env, st => (evE G C e env st).to env fun d st1 => (match asgT t d env with
    | some env1 => .nx env1 st1
    | none => .bad)
  | .seti a i e, env, st => (evE G C e env st).to env fun v st1 => (evE G C a env st1).to env fun x st2 => (evE G C i env st2).to env fun k st3 => stO (setiV x k v st3) env
  | .setf a f e, env, st => (evE G C e env st).to env fun v st1 => (evE G C a env st1).to env fun x st2 => stO (setfV x f v st2) env
  | .aug i op e, env, st => (match env[i]? with
    | some (some x) => (evE G C e env st).to env fun y st1 => (ofO (augV op x y) st1).to env fun z st2 => .nx (env.set i (some z)) st2
    | _ => .bad)
  | .augi a i op e, env, st => (evE G C a env st).to env fun x st1 => (evE G C i env st1).to env fun k st2 => (ofO (idxV x k st2) st2).to env fun w st3 =>
      (evE G C e env st3).to env fun y st4 => (ofO (augV op w y) st4).to env fun z st5 => stO (setiV x k z st5) env
  | .augf a f op e, env, st => (evE G C a env st).to env fun x st1 => (ofO (fldV G x f st1) st1).to env fun w st2 => (evE G C e env st2).to env fun y st3 => (ofO (augV op w y) st3).to env fun z st4 => stO (setfV x f z st4) env
  | .expr e, env, st => (evE G C e env st).to env fun _ st1 => .nx env st1
  | .ret e, env, st => (evE G C e env st).to env fun d st1 => .rt d st1
  | .retN, _, st => .rt .non st
  | .iff c a b, env, st => (evE G C c env st).to env fun d st1 => (match truB d st1 with
    | some true => exSs a env st1
    | some false => exSs b env st1
    | none => .bad)
  | .forr t it b, env, st => (evI G C it env st).toI env fun q st1 => forL q.2 t (exSs b) q.1 env st1
  | .whil c b, env, st => whl (evE G C c) (exSs b) env st
  | .brk, env, st => .bk env st
  | .cnt, env, st => .ct env st
  | .pss, env, st => .nx env st
  | .rse c es, env, st => (evEs G C es env st).toL env fun vs st1 => .exc c vs env st1
  | .tri b k slot h, env, st => (match exSs b env st with
    | .exc c vs env1 st1 => (match G.sub c k with
      | true => (match slot with
        | none => exSs h env1 st1
        | some i => (match exSs h (env1.set i (some (.exn c vs))) st1 with
          | .nx env2 st2 => .nx (env2.set i none) st2
          | .bk env2 st2 => .bk (env2.set i none) st2
          | .ct env2 st2 => .ct (env2.set i none) st2
          | r => r))
      | false => .exc c vs env1 st1)
    | r => r)
  | .deli a i, env, st => (evE G C a env st).to env fun x st1 => (evE G C i env st1).to env fun k st2 => stO (deliV x k st2) env
noncomputable def exSs : Ss → Env → Sto → SR
  | .nil, env, st => .nx env st
  | .cons s ss, env, st => (exS s env st).seq fun env1 st1 => exSs ss env1 st1
end
end
/-- a def's body run at its arguments -/
noncomputable def bodyR (G : Pg) (C : Calls) (fd : Fd) (vs : List D) (st : Sto) : R D :=
  if vs.length = fd.many then (match exSs G C fd.body (vs.map some ++ List.replicate (fd.slots - fd.many) none) st with
    | .rt d st1 => .ok d (trim st d st1)
    | .nx _ st1 => .ok .non (trim st .non st1)
    | .exc c xs _ st1 => .exc c xs st1
    | _ => .bad) else .bad
noncomputable def callN (G : Pg) : Nat → Calls
  | 0, _, _, _ => .bad
  | n + 1, .fn f, vs, st => (match G.fd f with
    | some fd => bodyR G (callN G n) fd vs st
    | none => .bad)
  | _ + 1, _, _, _ => .bad
end Hr

/-! How my values and store stand for the layer's. -/
namespace Hr
open PySem PySem.Spec PyProof.Rows L2

/-- the text's own objects: functions, classes by number -/
structure Tb where
  fnA : Nat → Addr
  clA : Nat → Addr

/-- a list that nothing writes -/
def FrL (K : PySem.W.Frag) (H : Hp) (a : Addr) (xs : List V) : Prop :=
  (∃ o, H a = some (.frz o (.lst xs))) ∨
    ∃ (o : Obj) (its : Array Value) (n : Nat), K.lookup a = some o ∧ o.cls = .type "list" ∧ o.dict = none ∧ o.data = .seq its n ∧ its.size ≤ sizeLine ∧ Vals xs its.toList
theorem FrL.sq {K : PySem.W.Frag} {H : Hp} {a : Addr} {xs : List V} (h : FrL K H a xs) : SqL K H a xs := h.elim (fun ⟨o, e⟩ => .inl (.inr ⟨o, e⟩)) .inr
section
variable (T : Tb) (K : PySem.W.Frag) (ρ : List Addr) (H : Hp)
mutual
inductive RelD : D → V → Prop
  | non : RelD .non .non
  | bl (b : Bool) : RelD (.bl b) (.bl b)
  | int (i : Int) : RelD (.int i) (.int i)
  | str (x : Str) : RelD (.str x) (.str x)
  | tup {a : Addr} {xs : List D} {vs : List V} : SqT K H a vs → RelDs xs vs → RelD (.tup xs) (.ref a)
  | ref {n : Nat} {a : Addr} : ρ[n]? = some a → RelD (.ref n) (.ref a)
  | fl {a : Addr} {xs : List D} {vs : List V} : FrL K H a vs → RelDs xs vs → RelD (.fl xs) (.ref a)
  | fn (i : Nat) : RelD (.fn i) (.ref (T.fnA i))
inductive RelDs : List D → List V → Prop
  | nil : RelDs [] []
  | cons {x : D} {v : V} {xs : List D} {vs : List V} : RelD x v → RelDs xs vs → RelDs (x :: xs) (v :: vs)
end
/-- a key of the layer -/
def keyD : D → Option Key
  | .int i => some (.inl i)
  | .str x => some (.inr x)
  | _ => none
def keyTD : D → Option (List Key)
  | .tup xs => xs.mapM keyD
  | _ => none
inductive RelFs : List (Str × D) → List (Str × V) → Prop
  | nil : RelFs [] []
  | cons {f : Str} {x : D} {v : V} {xs : List (Str × D)} {vs : List (Str × V)} : RelD T K ρ H x v → RelFs xs vs → RelFs ((f, x) :: xs) ((f, v) :: vs)
inductive RelKs : List (D × D) → List (Key × V) → Prop
  | nil : RelKs [] []
  | cons {d : D} {k : Key} {x : D} {v : V} {xs : List (D × D)} {vs : List (Key × V)} : keyD d = some k → RelD T K ρ H x v → RelKs xs vs → RelKs ((d, x) :: xs) ((k, v) :: vs)
inductive RelTs : List (D × D) → List (List Key × V) → Prop
  | nil : RelTs [] []
  | cons {d : D} {k : List Key} {x : D} {v : V} {xs : List (D × D)} {vs : List (List Key × V)} : keyTD d = some k → RelD T K ρ H x v → RelTs xs vs → RelTs ((d, x) :: xs) ((k, v) :: vs)
inductive RelOb : Ob → HO → Prop
  | lst {xs : List D} {vs : List V} : RelDs T K ρ H xs vs → RelOb (.lst xs) (.lst vs)
  | ins {c : Nat} {dx : Addr} {fs : List (Str × D)} {gs : List (Str × V)} : RelFs T K ρ H fs gs → RelOb (.ins c fs) (.ins (T.clA c) dx gs)
  | dK {kvs : List (D × D)} {ks : List (Key × V)} : RelKs T K ρ H kvs ks → RelOb (.dic kvs) (.dK ks)
  | dT {kvs : List (D × D)} {ks : List (List Key × V)} : RelTs T K ρ H kvs ks → RelOb (.dic kvs) (.dT ks)
  | lK {kvs : List (D × D)} {ks : List (Key × V)} {o : Obj} : RelKs T K ρ H kvs ks → RelOb (.lck kvs) (.frz o (.dK ks))
  | lT {kvs : List (D × D)} {ks : List (List Key × V)} {o : Obj} : RelTs T K ρ H kvs ks → RelOb (.lck kvs) (.frz o (.dT ks))
end
/-- the store stands in the heap at the addresses ρ -/
structure Rel (T : Tb) (K : PySem.W.Frag) (ρ : List Addr) (st : Sto) (H : Hp) : Prop where
  len : ρ.length = st.len
  nd : ρ.Nodup
  obj : ∀ n o, st.get n = some o → ∃ a h, ρ[n]? = some a ∧ H a = some h ∧ RelOb T K ρ H o h
/-- later: more places; what is not a place stands as it stood -/
structure Ext (ρ : List Addr) (H : Hp) (ρ' : List Addr) (H' : Hp) : Prop where
  pre : ∃ t, ρ' = ρ ++ t
  keep : ∀ a o, H a = some o → a ∉ ρ → (∀ ps, o ≠ .tbl ps) → H' a = some o
  tbl : ∀ a ps, H a = some (.tbl ps) → ∃ more, H' a = some (.tbl (ps ++ more))
  new : ∀ a ∈ ρ', a ∉ ρ → H a = none

section
variable {T : Tb} {K : PySem.W.Frag} {ρ ρ' ρ'' : List Addr} {H H' H'' : Hp} {st st' : Sto}
theorem RelDs.length {xs : List D} {vs : List V} (h : RelDs T K ρ H xs vs) : xs.length = vs.length := by
  induction xs generalizing vs with
  | nil => cases h; rfl
  | cons x xs ih => cases h with | cons a b => simp [ih b]
theorem RelDs.get {xs : List D} {vs : List V} (h : RelDs T K ρ H xs vs) : ∀ {i : Nat} {x : D}, xs[i]? = some x → ∃ v, vs[i]? = some v ∧ RelD T K ρ H x v := by
  induction xs generalizing vs with
  | nil => intro i x e; simp at e
  | cons y xs ih =>
    cases h with
    | cons a b =>
      intro i x e
      cases i with
      | zero => simp at e; subst e; exact ⟨_, rfl, a⟩
      | succ i => obtain ⟨v, e1, r⟩ := ih b (by simpa using e); exact ⟨v, by simpa using e1, r⟩
theorem RelDs.append {xs ys : List D} {vs ws : List V} (h : RelDs T K ρ H xs vs) (g : RelDs T K ρ H ys ws) : RelDs T K ρ H (xs ++ ys) (vs ++ ws) := by
  induction xs generalizing vs with
  | nil => cases h; exact g
  | cons x xs ih => cases h with | cons a b => exact .cons a (ih b)
theorem RelDs.take {xs : List D} {vs : List V} (h : RelDs T K ρ H xs vs) : ∀ n, RelDs T K ρ H (xs.take n) (vs.take n) := by
  induction xs generalizing vs with
  | nil => cases h; intro n; simp; exact .nil
  | cons x xs ih =>
    cases h with
    | cons a b =>
      intro n
      cases n with
      | zero => exact .nil
      | succ n => exact .cons a (ih b n)
theorem RelDs.drop {xs : List D} {vs : List V} (h : RelDs T K ρ H xs vs) : ∀ n, RelDs T K ρ H (xs.drop n) (vs.drop n) := by
  induction xs generalizing vs with
  | nil => cases h; intro n; simp; exact .nil
  | cons x xs ih =>
    cases h with
    | cons a b =>
      intro n
      cases n with
      | zero => exact .cons a b
      | succ n => exact ih b n
theorem RelDs.set {xs : List D} {vs : List V} {x : D} {v : V} (r : RelD T K ρ H x v) (h : RelDs T K ρ H xs vs) : ∀ n, RelDs T K ρ H (xs.set n x) (vs.set n v) := by
  induction xs generalizing vs with
  | nil => cases h; intro n; exact .nil
  | cons y xs ih =>
    cases h with
    | cons a b =>
      intro n
      cases n with
      | zero => exact .cons r b
      | succ n => exact .cons a (ih b n)
theorem RelDs.reverse {xs : List D} {vs : List V} (h : RelDs T K ρ H xs vs) : RelDs T K ρ H xs.reverse vs.reverse := by
  induction xs generalizing vs with
  | nil => cases h; exact .nil
  | cons y xs ih =>
    cases h with
    | cons a b => simp only [List.reverse_cons]; exact (ih b).append (.cons a .nil)
theorem RelDs.flat {xs : List D} {vs : List V} (h : RelDs T K ρ H xs vs) : ∀ k : Nat, RelDs T K ρ H (List.replicate k xs).flatten (List.replicate k vs).flatten
  | 0 => .nil
  | k + 1 => by simp only [List.replicate_succ, List.flatten_cons]; exact h.append (RelDs.flat h k)

theorem Rel.lt (R : Rel T K ρ st H) {n : Nat} {a : Addr} (h : ρ[n]? = some a) : n < st.len := by
  rw [← R.len]; exact (List.getElem?_eq_some_iff.mp h).1
theorem Sto.get_some {st : Sto} {n : Nat} (h : n < st.len) : ∃ o, st.get n = some o := ⟨st.cells[n], by unfold Sto.get; exact List.getElem?_eq_getElem h⟩
theorem Rel.at (R : Rel T K ρ st H) {a : Addr} (h : a ∈ ρ) : ∃ n o x, ρ[n]? = some a ∧ st.get n = some o ∧ H a = some x ∧ RelOb T K ρ H o x := by
  obtain ⟨n, hn, e⟩ := List.getElem_of_mem h
  have e' : ρ[n]? = some a := by rw [List.getElem?_eq_getElem hn, e]
  obtain ⟨o, ho⟩ := Sto.get_some (st := st) (n := n) (by rw [← R.len]; exact hn)
  obtain ⟨b, x, h1, h2, h3⟩ := R.obj n o ho
  rw [e'] at h1; cases h1
  exact ⟨n, o, x, e', ho, h2, h3⟩
theorem Rel.notup (R : Rel T K ρ st H) {a : Addr} {vs : List V} (h : H a = some (.tup vs)) : a ∉ ρ := fun m => by
  obtain ⟨n, o, x, _, _, e, r⟩ := R.at m
  rw [h] at e; cases e; cases r
theorem Rel.nofrz (R : Rel T K ρ st H) {a : Addr} {o : Obj} {vs : List V} (h : H a = some (.frz o (.tup vs))) : a ∉ ρ := fun m => by
  obtain ⟨n, o, x, _, _, e, r⟩ := R.at m
  rw [h] at e; cases e; cases r
theorem Rel.nofrl (R : Rel T K ρ st H) {a : Addr} {o : Obj} {vs : List V} (h : H a = some (.frz o (.lst vs))) : a ∉ ρ := fun m => by
  obtain ⟨n, o, x, _, _, e, r⟩ := R.at m
  rw [h] at e; cases e; cases r
theorem Rel.inj (R : Rel T K ρ st H) {n m : Nat} {a : Addr} (h : ρ[n]? = some a) (g : ρ[m]? = some a) : n = m := by
  obtain ⟨h1, e1⟩ := List.getElem?_eq_some_iff.mp h
  obtain ⟨h2, e2⟩ := List.getElem?_eq_some_iff.mp g
  exact (List.getElem_inj R.nd).mp (e1.trans e2.symm)

theorem Ext.refl : Ext ρ H ρ H := ⟨⟨[], by simp⟩, fun _ _ h _ _ => h, fun _ ps h => ⟨#[], by simpa using h⟩, fun _ h n => absurd h n⟩
theorem Ext.trans (a : Ext ρ H ρ' H') (b : Ext ρ' H' ρ'' H'') : Ext ρ H ρ'' H'' := by
  obtain ⟨t1, e1⟩ := a.pre
  obtain ⟨t2, e2⟩ := b.pre
  refine ⟨⟨t1 ++ t2, by rw [e2, e1, List.append_assoc]⟩, fun x o h n k => ?_, fun x ps h => ?_, fun x h n => ?_⟩
  · refine b.keep x o (a.keep x o h n k) (fun m => ?_) k
    rw [a.new x m n] at h; cases h
  · obtain ⟨m1, h1⟩ := a.tbl x ps h
    obtain ⟨m2, h2⟩ := b.tbl x _ h1
    exact ⟨m1 ++ m2, by rw [h2, Array.append_assoc]⟩
  · by_cases m : x ∈ ρ'
    · exact a.new x m n
    · have q := b.new x h m
      cases e : H x with
      | none => rfl
      | some o =>
        by_cases k : ∃ ps, o = .tbl ps
        · obtain ⟨ps, rfl⟩ := k
          obtain ⟨more, z⟩ := a.tbl x ps e
          rw [q] at z; cases z
        · have z := a.keep x o e n fun ps hp => k ⟨ps, hp⟩
          rw [q] at z; cases z
theorem Ext.get (a : Ext ρ H ρ' H') {n : Nat} {x : Addr} (h : ρ[n]? = some x) : ρ'[n]? = some x := by
  obtain ⟨t, e⟩ := a.pre
  rw [e, List.getElem?_append_left (List.getElem?_eq_some_iff.mp h).1]
  exact h
/-- .. lists off the store may change too -/
structure Exw (ρ : List Addr) (H : Hp) (ρ' : List Addr) (H' : Hp) : Prop where
  pre : ∃ t, ρ' = ρ ++ t
  keep : ∀ a o, H a = some o → a ∉ ρ → (∀ ps, o ≠ .tbl ps) → (∀ ps, o ≠ .lst ps) → H' a = some o
theorem Ext.weak (x : Ext ρ H ρ' H') : Exw ρ H ρ' H' := ⟨x.pre, fun a o e n t _ => x.keep a o e n t⟩
theorem Exw.get (a : Exw ρ H ρ' H') {n : Nat} {x : Addr} (h : ρ[n]? = some x) : ρ'[n]? = some x := by
  obtain ⟨t, e⟩ := a.pre
  rw [e, List.getElem?_append_left (List.getElem?_eq_some_iff.mp h).1]
  exact h
/-- tuples stay -/
theorem SqT.exw (R : Rel T K ρ st H) (x : Exw ρ H ρ' H') {a : Addr} {vs : List V} (h : SqT K H a vs) : SqT K H' a vs := by
  rcases h with (h | ⟨o, h⟩) | h
  · exact .inl (.inl (x.keep a _ h (R.notup h) (fun _ z => by cases z) (fun _ z => by cases z)))
  · exact .inl (.inr ⟨o, x.keep a _ h (R.nofrz h) (fun _ z => by cases z) (fun _ z => by cases z)⟩)
  · exact .inr h
theorem FrL.exw (R : Rel T K ρ st H) (x : Exw ρ H ρ' H') {a : Addr} {vs : List V} (h : FrL K H a vs) : FrL K H' a vs := by
  rcases h with ⟨o, h⟩ | h
  · exact .inl ⟨o, x.keep a _ h (R.nofrl h) (fun _ z => by cases z) (fun _ z => by cases z)⟩
  · exact .inr h
mutual
theorem RelD.exw (R : Rel T K ρ st H) (x : Exw ρ H ρ' H') : ∀ {d : D} {v : V}, RelD T K ρ H d v → RelD T K ρ' H' d v
  | _, _, .non => .non
  | _, _, .bl b => .bl b
  | _, _, .int b => .int b
  | _, _, .str b => .str b
  | _, _, .tup s r => .tup (SqT.exw R x s) (RelDs.exw R x r)
  | _, _, .ref h => .ref (x.get h)
  | _, _, .fl s r => .fl (FrL.exw R x s) (RelDs.exw R x r)
  | _, _, .fn i => .fn i
theorem RelDs.exw (R : Rel T K ρ st H) (x : Exw ρ H ρ' H') : ∀ {d : List D} {v : List V}, RelDs T K ρ H d v → RelDs T K ρ' H' d v
  | _, _, .nil => .nil
  | _, _, .cons a b => .cons (RelD.exw R x a) (RelDs.exw R x b)
end
theorem SqT.ext (R : Rel T K ρ st H) (x : Ext ρ H ρ' H') {a : Addr} {vs : List V} (h : SqT K H a vs) : SqT K H' a vs := SqT.exw R x.weak h
theorem RelD.ext (R : Rel T K ρ st H) (x : Ext ρ H ρ' H') {d : D} {v : V} (h : RelD T K ρ H d v) : RelD T K ρ' H' d v := h.exw R x.weak
theorem RelDs.ext (R : Rel T K ρ st H) (x : Ext ρ H ρ' H') {d : List D} {v : List V} (h : RelDs T K ρ H d v) : RelDs T K ρ' H' d v := h.exw R x.weak
theorem RelFs.ext (R : Rel T K ρ st H) (x : Ext ρ H ρ' H') {d : List (Str × D)} {v : List (Str × V)} (h : RelFs T K ρ H d v) : RelFs T K ρ' H' d v := by
  induction h with
  | nil => exact .nil
  | cons a _ ih => exact .cons (a.ext R x) ih
theorem RelKs.ext (R : Rel T K ρ st H) (x : Ext ρ H ρ' H') {d : List (D × D)} {v : List (Key × V)} (h : RelKs T K ρ H d v) : RelKs T K ρ' H' d v := by
  induction h with
  | nil => exact .nil
  | cons a b _ ih => exact .cons a (b.ext R x) ih
theorem RelTs.ext (R : Rel T K ρ st H) (x : Ext ρ H ρ' H') {d : List (D × D)} {v : List (List Key × V)} (h : RelTs T K ρ H d v) : RelTs T K ρ' H' d v := by
  induction h with
  | nil => exact .nil
  | cons a b _ ih => exact .cons a (b.ext R x) ih
theorem RelOb.ext (R : Rel T K ρ st H) (x : Ext ρ H ρ' H') {d : Ob} {v : HO} (h : RelOb T K ρ H d v) : RelOb T K ρ' H' d v := by
  cases h with
  | lst a => exact .lst (a.ext R x)
  | ins a => exact .ins (a.ext R x)
  | dK a => exact .dK (a.ext R x)
  | dT a => exact .dT (a.ext R x)
  | lK a => exact .lK (a.ext R x)
  | lT a => exact .lT (a.ext R x)
/-- a new thing that is no place -/
theorem Ext.laid {p : Addr} {o : HO} (R : Rel T K ρ st H) (h : H p = none) : Ext ρ H ρ (upd H p o) := by
  have ne : ∀ a u, H a = some u → a ≠ p := fun a u e z => by rw [z, h] at e; cases e
  exact ⟨⟨[], by simp⟩, fun a u e _ _ => by rw [upd_ne (ne a u e)]; exact e, fun a ps e => ⟨#[], by rw [upd_ne (ne a _ e)]; simpa using e⟩, fun a m n => absurd m n⟩
theorem Rel.laid {p : Addr} {o : HO} (R : Rel T K ρ st H) (h : H p = none) : Rel T K ρ st (upd H p o) := by
  refine ⟨R.len, R.nd, fun n u e => ?_⟩
  obtain ⟨a, x, h1, h2, h3⟩ := R.obj n u e
  exact ⟨a, x, h1, by rw [upd_ne (ne_of_none h2 h)]; exact h2, h3.ext R (Ext.laid R h)⟩
theorem Ext.made {p : Addr} {o : HO} (h : H p = none) : Ext ρ H (ρ ++ [p]) (upd H p o) := by
  have ne : ∀ a u, H a = some u → a ≠ p := fun a u e z => by rw [z, h] at e; cases e
  refine ⟨⟨[p], rfl⟩, fun a u e _ _ => by rw [upd_ne (ne a u e)]; exact e, fun a ps e => ⟨#[], by rw [upd_ne (ne a _ e)]; simpa using e⟩, fun a m n => ?_⟩
  rcases List.mem_append.mp m with m | m
  · exact absurd m n
  · rw [List.mem_singleton.mp m]; exact h
theorem Sto.get_new (st : Sto) (o : Ob) (n : Nat) : (st.new o).get n = if n = st.len then some o else st.get n := by
  unfold Sto.get Sto.new Sto.len
  by_cases h : n < st.cells.length
  · rw [List.getElem?_append_left h, if_neg (by omega)]
  · by_cases e : n = st.cells.length
    · subst e; simp
    · rw [if_neg e, List.getElem?_eq_none (by simp; omega), List.getElem?_eq_none (by omega)]
theorem Sto.len_new (st : Sto) (o : Ob) : (st.new o).len = st.len + 1 := by simp [Sto.new, Sto.len]
theorem Sto.get_lt {st : Sto} {n : Nat} {o : Ob} (h : st.get n = some o) : n < st.len := (List.getElem?_eq_some_iff.mp h).1
/-- a new object that is a place; what it holds may lean on it itself no -/
theorem Rel.made {p : Addr} {o : Ob} {h : HO} (R : Rel T K ρ st H) (hp : H p = none) (r : RelOb T K ρ H o h) : Rel T K (ρ ++ [p]) (st.new o) (upd H p h) := by
  have nin : p ∉ ρ := fun m => by
    obtain ⟨n, o, x, _, _, e, _⟩ := R.at m
    rw [hp] at e; cases e
  refine ⟨by rw [Sto.len_new, List.length_append, R.len]; rfl, List.nodup_append.mpr ⟨R.nd, by simp, fun a ha b hb e => nin (by rw [List.mem_singleton.mp hb] at e; rw [← e]; exact ha)⟩, fun n u e => ?_⟩
  rw [Sto.get_new] at e
  split at e
  · next q =>
    subst q; cases e
    refine ⟨p, h, ?_, upd_same, r.ext R (Ext.made hp)⟩
    rw [List.getElem?_append_right (by rw [R.len]; exact Nat.le_refl _), R.len]; simp
  · obtain ⟨a, x, h1, h2, h3⟩ := R.obj n u e
    exact ⟨a, x, (Ext.made (o := h) hp).get h1, by rw [upd_ne (ne_of_none h2 hp)]; exact h2, h3.ext R (Ext.made hp)⟩
theorem Sto.get_put (st : Sto) (o : Ob) (m n : Nat) : (st.put m o).get n = if n = m ∧ m < st.len then some o else st.get n := by
  unfold Sto.get Sto.put Sto.len
  by_cases h : n = m
  · subst h
    by_cases l : n < st.cells.length
    · rw [if_pos ⟨rfl, l⟩, List.getElem?_set_self l]
    · rw [if_neg (fun q => l q.2), List.getElem?_eq_none (by simpa using l), List.getElem?_eq_none (by simpa using l)]
  · rw [if_neg (fun q => h q.1), List.getElem?_set_ne (fun q => h q.symm)]
theorem Sto.len_put (st : Sto) (o : Ob) (m : Nat) : (st.put m o).len = st.len := by simp [Sto.put, Sto.len]
theorem Ext.put {p : Addr} {h : HO} (hp : p ∈ ρ) (nt : ∀ ps, H p ≠ some (.tbl ps)) : Ext ρ H ρ (upd H p h) := by
  refine ⟨⟨[], by simp⟩, fun a u e n _ => ?_, fun a ps e => ⟨#[], ?_⟩, fun a m n => absurd m n⟩
  · have ne : a ≠ p := by rintro rfl; exact n hp
    rw [upd_ne ne]; exact e
  · have ne : a ≠ p := by rintro rfl; exact nt ps e
    rw [upd_ne ne]; simpa using e
theorem Rel.notbl (R : Rel T K ρ st H) {p : Addr} (hp : p ∈ ρ) : ∀ ps, H p ≠ some (.tbl ps) := fun ps z => by
  obtain ⟨n, o, x, _, _, e, r⟩ := R.at hp
  rw [z] at e; cases e; cases r
/-- a place is written -/
theorem Rel.put {p : Addr} {n : Nat} {o : Ob} {h : HO} (R : Rel T K ρ st H) (hn : ρ[n]? = some p) (r : RelOb T K ρ H o h) : Rel T K ρ (st.put n o) (upd H p h) := by
  have hp : p ∈ ρ := List.mem_of_getElem? hn
  have X : Ext ρ H ρ (upd H p h) := Ext.put hp (R.notbl hp)
  refine ⟨by rw [Sto.len_put, R.len], R.nd, fun m u e => ?_⟩
  rw [Sto.get_put] at e
  split at e
  · next q =>
    obtain ⟨rfl, _⟩ := q; cases e
    exact ⟨p, h, hn, upd_same, r.ext R X⟩
  · next q =>
    obtain ⟨a, x, h1, h2, h3⟩ := R.obj m u e
    refine ⟨a, x, h1, ?_, h3.ext R X⟩
    rw [upd_ne ?_]; exact h2
    rintro rfl
    exact q ⟨R.inj h1 hn, R.lt hn⟩
end
end Hr

/-! What my evaluator answers is what the layer's readings ask. -/
namespace Hr
open PySem PySem.Spec PyProof.Rows L2
abbrev St := L2.St

section
variable (T : Tb) (K : PySem.W.Frag)
/-- the slots -/
structure RelE (ρ : List Addr) (H : Hp) (env : Env) (σ : St) : Prop where
  len : env.length = σ.length
  at_ : ∀ (i : Nat) (d : D), env[i]? = some (some d) → ∃ v, σ[i]? = some (some v) ∧ RelD T K ρ H d v
/-- what is wanted where an exception leaves -/
def AX (W : WX) (ρ : List Addr) (H : Hp) (σ : St) (c : Nat) (vs : List D) (st : Sto) : Prop := False
def Ans {α β : Type} (RV : List Addr → Hp → α → β → Prop) (W : WX) (ρ : List Addr) (H : Hp) (σ : St) (r : R α) (Q : β → Hp → Prop) : Prop := match r with
  | .ok d st' => ∀ v ρ' H', Ext ρ H ρ' H' → Rel T K ρ' st' H' → RV ρ' H' d v → Q v H'
  | .exc c vs st' => AX W ρ H σ c vs st'
  | .bad => False
abbrev RB : List Addr → Hp → Bool → Bool → Prop := fun _ _ a b => a = b
def tX {α β : Type} (RV : List Addr → Hp → α → β → Prop) (W : WX) (ev : Env → Sto → R α) : St → Hp → (β → Hp → Prop) → Prop :=
  fun σ H Q => ∃ ρ env st, Rel T K ρ st H ∧ RelE T K ρ H env σ ∧ Ans T K RV W ρ H σ (ev env st) Q
abbrev tE (W : WX) (ev : Env → Sto → R D) : TE := tX T K (RelD T K) W ev
abbrev tT (W : WX) (ev : Env → Sto → R Bool) : TT := tX T K RB W ev
abbrev tA (W : WX) (ev : Env → Sto → R (List D)) : TA := tX T K (RelDs T K) W ev
def AnsS (W : WX) (ρ : List Addr) (H : Hp) (r : SR) (D : Ends) : Prop := match r with
  | .nx env st => ∀ σ ρ' H', Ext ρ H ρ' H' → Rel T K ρ' st H' → RelE T K ρ' H' env σ → D.nx σ H'
  | .bk env st => ∀ σ ρ' H', Ext ρ H ρ' H' → Rel T K ρ' st H' → RelE T K ρ' H' env σ → D.bk σ H'
  | .ct env st => ∀ σ ρ' H', Ext ρ H ρ' H' → Rel T K ρ' st H' → RelE T K ρ' H' env σ → D.ct σ H'
  | .rt d st => ∀ v ρ' H', Ext ρ H ρ' H' → Rel T K ρ' st H' → RelD T K ρ' H' d v → D.rt v H'
  | .exc c vs env st => ∀ σ ρ' H', Ext ρ H ρ' H' → RelE T K ρ' H' env σ → AX W ρ' H' σ c vs st
  | .bad => False
def tS (W : WX) (ex : Env → Sto → SR) : TS := fun D σ H => ∃ ρ env st, Rel T K ρ st H ∧ RelE T K ρ H env σ ∧ AnsS T K W ρ H (ex env st) D
end

section
variable {T : Tb} {K : PySem.W.Frag} {W : WX} {ρ ρ' : List Addr} {H H' : Hp} {σ : St} {st : Sto} {env : Env}
theorem RelE.ext (R : Rel T K ρ st H) (x : Ext ρ H ρ' H') (r : RelE T K ρ H env σ) : RelE T K ρ' H' env σ :=
  ⟨r.len, fun i d e => let ⟨v, h, q⟩ := r.at_ i d e; ⟨v, h, q.ext R x⟩⟩
theorem AX.ext (c : Nat) (vs : List D) (st : Sto) (x : Ext ρ H ρ' H') (h : AX W ρ H σ c vs st) : AX W ρ' H' σ c vs st := h
theorem Ans.ext {α β : Type} {RV : List Addr → Hp → α → β → Prop} {r : R α} {Q : β → Hp → Prop} (x : Ext ρ H ρ' H') (h : Ans T K RV W ρ H σ r Q) : Ans T K RV W ρ' H' σ r Q := by
  cases r with
  | ok d st' => exact fun v ρ2 H2 y R2 q => h v ρ2 H2 (x.trans y) R2 q
  | exc c vs st' => exact AX.ext (W := W) (σ := σ) c vs st' x h
  | bad => exact h
theorem Ans.imp {α β : Type} {RV : List Addr → Hp → α → β → Prop} {r : R α} {Q Q' : β → Hp → Prop} (h : Ans T K RV W ρ H σ r Q) (i : ∀ v ρ' H' d st', r = .ok d st' → Ext ρ H ρ' H' → Rel T K ρ' st' H' → RV ρ' H' d v → Q v H' → Q' v H') : Ans T K RV W ρ H σ r Q' := by
  cases r with
  | ok d st' => exact fun v ρ2 H2 y R2 q => i v ρ2 H2 d st' rfl y R2 q (h v ρ2 H2 y R2 q)
  | exc c vs st' => exact h
  | bad => exact h
/-- an answer, then what is made of it -/
theorem Ans.bind {α β γ δ : Type} {RV : List Addr → Hp → α → β → Prop} {RW : List Addr → Hp → γ → δ → Prop} {r : R α} {f : α → Sto → R γ} {Q : δ → Hp → Prop} (h : Ans T K RW W ρ H σ (r.bind f) Q) :
    Ans T K RV W ρ H σ r (fun v H' => ∃ d st' ρ', r = .ok d st' ∧ Ext ρ H ρ' H' ∧ Rel T K ρ' st' H' ∧ RV ρ' H' d v ∧ Ans T K RW W ρ' H' σ (f d st') Q) := by
  cases r with
  | ok d st' => exact fun v ρ2 H2 y R2 q => ⟨d, st', ρ2, rfl, y, R2, q, Ans.ext y h⟩
  | exc c vs st' => exact h
  | bad => exact h
/-- .. for readings -/
theorem tX.bind {α β γ δ : Type} {RV : List Addr → Hp → α → β → Prop} {RW : List Addr → Hp → γ → δ → Prop} {ev : Env → Sto → R α} {f : Env → α → Sto → R γ} {Q : δ → Hp → Prop}
    (R0 : Rel T K ρ st H) (E0 : RelE T K ρ H env σ) (h : Ans T K RW W ρ H σ ((ev env st).bind (f env)) Q) :
    tX T K RV W ev σ H (fun v H' => ∃ d st' ρ', Rel T K ρ' st' H' ∧ RelE T K ρ' H' env σ ∧ Ext ρ H ρ' H' ∧ RV ρ' H' d v ∧ Ans T K RW W ρ' H' σ (f env d st') Q) := by
  refine ⟨ρ, env, st, R0, E0, (Ans.bind (RV := RV) h).imp fun v ρ' H' d st' _ x R1 q hq => ?_⟩
  obtain ⟨d2, st2, ρ2, e, x2, R2, q2, a⟩ := hq
  exact ⟨d2, st2, ρ2, R2, E0.ext R0 x2, x2, q2, a⟩
theorem step {α β γ δ : Type} {RV : List Addr → Hp → α → β → Prop} {RW : List Addr → Hp → γ → δ → Prop} {ev : Env → Sto → R α} {k : α → Sto → R γ} {Q : δ → Hp → Prop}
    (R0 : Rel T K ρ st H) (E0 : RelE T K ρ H env σ) (h : Ans T K RW W ρ H σ ((ev env st).bind k) Q) :
    tX T K RV W ev σ H (fun v H' => ∃ d st' ρ', Rel T K ρ' st' H' ∧ RelE T K ρ' H' env σ ∧ Ext ρ H ρ' H' ∧ RV ρ' H' d v ∧ Ans T K RW W ρ' H' σ (k d st') Q) := tX.bind (f := fun _ => k) R0 E0 h
theorem tX.imp {α β : Type} {RV : List Addr → Hp → α → β → Prop} {ev : Env → Sto → R α} {Q Q' : β → Hp → Prop} (h : tX T K RV W ev σ H Q) (i : ∀ v H', Q v H' → Q' v H') : tX T K RV W ev σ H Q' := by
  obtain ⟨ρ, env, st, R0, E0, a⟩ := h
  exact ⟨ρ, env, st, R0, E0, a.imp fun v ρ' H' _ _ _ _ _ _ q => i v H' q⟩
/-- the answer at hand -/
theorem Ans.done {α β : Type} {RV : List Addr → Hp → α → β → Prop} {d : α} {v : β} {Q : β → Hp → Prop} (h : Ans T K RV W ρ H σ (.ok d st) Q) (R0 : Rel T K ρ st H) (r : RV ρ H d v) : Q v H := h v ρ H Ext.refl R0 r
theorem grd_ok {α β : Type} {RV : List Addr → Hp → α → β → Prop} {b : Bool} {r : R α} {Q : β → Hp → Prop} (h : Ans T K RV W ρ H σ (grd b r) Q) : b = true ∧ Ans T K RV W ρ H σ r Q := by
  cases b with
  | true => exact ⟨rfl, h⟩
  | false => exact h.elim
theorem ofO_ok {α β : Type} {RV : List Addr → Hp → α → β → Prop} {o : Option α} {Q : β → Hp → Prop} (h : Ans T K RV W ρ H σ (ofO o st) Q) : ∃ a, o = some a ∧ Ans T K RV W ρ H σ (.ok a st) Q := by
  cases o with
  | some a => exact ⟨a, rfl, h⟩
  | none => exact h.elim
/-- a new place is the answer -/
theorem Ans.made {o : Ob} {h : HO} {p : Addr} {Q : V → Hp → Prop} (a : Ans T K (RelD T K) W ρ H σ (.ok (.ref st.len) (st.new o)) Q) (R0 : Rel T K ρ st H) (hp : H p = none) (r : RelOb T K ρ H o h) : Q (.ref p) (upd H p h) :=
  a (.ref p) (ρ ++ [p]) (upd H p h) (Ext.made hp) (R0.made hp r) (.ref (by rw [List.getElem?_append_right (by rw [R0.len]; exact Nat.le_refl _), R0.len]; simp))
/-- a new tuple is the answer -/
theorem Ans.tup {xs : List D} {vs : List V} {p : Addr} {Q : V → Hp → Prop} (a : Ans T K (RelD T K) W ρ H σ (.ok (.tup xs) st) Q) (R0 : Rel T K ρ st H) (hp : H p = none) (r : RelDs T K ρ H xs vs) : Q (.ref p) (upd H p (.tup vs)) :=
  a (.ref p) ρ (upd H p (.tup vs)) (Ext.laid R0 hp) (R0.laid hp) (.tup (SqT.of upd_same) (r.ext R0 (Ext.laid R0 hp)))
/-- a place is written -/
theorem Ans.put {α β : Type} {RV : List Addr → Hp → α → β → Prop} {d : α} {v : β} {n : Nat} {o : Ob} {h : HO} {p : Addr} {Q : β → Hp → Prop} (a : Ans T K RV W ρ H σ (.ok d (st.put n o)) Q) (R0 : Rel T K ρ st H) (hp : ρ[n]? = some p) (r : RelOb T K ρ H o h)
    (rv : RV ρ (upd H p h) d v) : Q v (upd H p h) :=
  a v ρ (upd H p h) (Ext.put (List.mem_of_getElem? hp) (R0.notbl (List.mem_of_getElem? hp))) (R0.put hp r) rv
theorem Rel.lst (R0 : Rel T K ρ st H) {n : Nat} {p : Addr} {xs : List D} (hp : ρ[n]? = some p) (h : st.get n = some (.lst xs)) : ∃ vs, H p = some (.lst vs) ∧ RelDs T K ρ H xs vs := by
  obtain ⟨a, x, h1, h2, h3⟩ := R0.obj n _ h
  rw [hp] at h1; cases h1
  cases h3 with
  | lst r => exact ⟨_, h2, r⟩
theorem Rel.ins (R0 : Rel T K ρ st H) {n : Nat} {p : Addr} {c : Nat} {fs : List (Str × D)} (hp : ρ[n]? = some p) (h : st.get n = some (.ins c fs)) : ∃ dx gs, H p = some (.ins (T.clA c) dx gs) ∧ RelFs T K ρ H fs gs := by
  obtain ⟨a, x, h1, h2, h3⟩ := R0.obj n _ h
  rw [hp] at h1; cases h1
  cases h3 with
  | ins r => exact ⟨_, _, h2, r⟩
end

section
variable {T : Tb} {X : Cx} {W : WX} {σ : St} {H : Hp}
theorem PE.weak {X : Cx} {e : Expr} {t t' : TE} (h : PE X e t) (i : ∀ σ H Q, t' σ H Q → t σ H Q) : PE X e t' := ⟨fun pins s σ H Q I q => h.run pins s σ H Q I (i σ H Q q)⟩
theorem PT.weak {X : Cx} {e : Expr} {t t' : TT} (h : PT X e t) (i : ∀ σ H Q, t' σ H Q → t σ H Q) : PT X e t' := ⟨fun pins s σ H Q I q => h.run pins s σ H Q I (i σ H Q q)⟩
theorem PA.weak {X : Cx} {e : List Expr} {t t' : TA} (h : PA X e t) (i : ∀ σ H Q, t' σ H Q → t σ H Q) : PA X e t' := ⟨fun pos pins s σ H Q I q => h.run pos pins s σ H Q I (i σ H Q q)⟩
theorem PS.weak {X : Cx} {e : Stmt} {t t' : TS} (h : PS X e t) (i : ∀ D σ H, t' D σ H → t D σ H) : PS X e t' := ⟨fun pins s σ H D I q => h.run pins s σ H D I (i D σ H q)⟩
theorem PSs.weak {X : Cx} {e : List Stmt} {t t' : TS} (h : PSs X e t) (i : ∀ D σ H, t' D σ H → t D σ H) : PSs X e t' := ⟨fun pins s σ H D I q => h.run pins s σ H D I (i D σ H q)⟩

/-! ### names, constants -/
theorem sE_var {i : Nat} {x : Str} {pos : Pos} (hN : X.N[i]? = some x) (hv : Vis X.env.scope x) (hd : (x == ("__debug__" : Str)) = false) (hcd : (x == ("__classdict__" : Str)) = false) :
    PE X (.Name x pos) (tE T X.K W fun env st => (match env[i]? with
    | some (some d) => .ok d st
    | _ => .bad)) := by
  refine PE.weak (pe_var hN hv hd hcd) fun σ H Q h => ?_
  obtain ⟨ρ, env, st, R0, E0, a⟩ := h
  cases e : env[i]? with
  | none => simp only [e] at a; exact a.elim
  | some o =>
    cases o with
    | none => simp only [e] at a; exact a.elim
    | some d =>
      simp only [e] at a
      obtain ⟨v, h, r⟩ := E0.at_ i d e
      exact ⟨v, h, a.done R0 r⟩
theorem sE_con {e : Expr} {v : V} {d : D} (h : PE X e (tC v)) (r : ∀ ρ H, RelD T X.K ρ H d v) : PE X e (tE T X.K W fun _ st => .ok d st) := by
  refine PE.weak h fun σ H Q h => ?_
  obtain ⟨ρ, env, st, R0, E0, a⟩ := h
  exact a.done R0 (r ρ H)

/-! ### two values, an operator -/
theorem sE_bin {op : Operator} {a b : Expr} {ma mb : Env → Sto → R D} {f : D → D → Sto → R D} {r : R2} {pos : Pos} (ho : OpR X (binaryOp op) r) (ha : PE X a (tE T X.K W ma)) (hb : PE X b (tE T X.K W mb))
    (hr : ∀ ρ H st σ d e x y Q, Rel T X.K ρ st H → RelD T X.K ρ H d x → RelD T X.K ρ H e y → Ans T X.K (RelD T X.K) W ρ H σ (f d e st) Q → r x y H Q) :
    PE X (.BinOp a op b pos) (tE T X.K W fun env st => (ma env st).bind fun x st1 => (mb env st1).bind fun y st2 => f x y st2) := by
  refine PE.weak (pe_op ho ha hb) fun σ H Q h => ?_
  obtain ⟨ρ, env, st, R0, E0, h⟩ := h
  refine (tX.bind (f := fun env x st1 => (mb env st1).bind fun y st2 => f x y st2) R0 E0 h).imp fun x H1 q => ?_
  obtain ⟨d, st1, ρ1, R1, E1, X1, r1, q⟩ := q
  refine (tX.bind (f := fun env y st2 => f d y st2) R1 E1 q).imp fun y H2 q => ?_
  obtain ⟨e, st2, ρ2, R2, E2, X2, r2, q⟩ := q
  exact hr ρ2 H2 st2 σ d e x y Q R2 (r1.ext R1 X2) r2 q
end
end Hr

/-! Plain data: equality and order as the library has them. -/
namespace Hr
open PySem PySem.Spec PyProof.Rows L2
mutual
def toP : D → PyData
  | .bl b => .bool b
  | .int i => .int i
  | .str x => .str x
  | .tup xs => .tuple (toPs xs)
  | _ => .none
def toPs : List D → List PyData
  | [] => []
  | x :: xs => toP x :: toPs xs
end
theorem toPs_map : ∀ xs, toPs xs = xs.map toP
  | [] => by simp [toPs]
  | x :: xs => by simp [toPs, toPs_map xs]
section
variable {T : Tb} {K : PySem.W.Frag} {ρ : List Addr} {H : Hp}
mutual
theorem RelD.dp : ∀ {n : Nat} {d : D} {v : V}, okD n d = true → RelD T K ρ H d v → Dp K H v (toP d)
  | _, _, _, _, .non => by simp only [toP]; exact .non
  | _, _, _, _, .bl b => by simp only [toP]; exact .bl b
  | _, _, _, _, .int b => by simp only [toP]; exact .int b
  | _, _, _, _, .str b => by simp only [toP]; exact .str b
  | 0, _, _, h, .tup s r => by simp [okD] at h
  | n + 1, _, _, h, .tup s r => by
    simp only [toP]
    exact .tup s (RelDs.dp (n := n) (by simpa [okD] using h) r)
  | 0, _, _, h, .ref _ => by simp [okD] at h
  | _ + 1, _, _, h, .ref _ => by simp [okD] at h
  | 0, _, _, h, .fn _ => by simp [okD] at h
  | _ + 1, _, _, h, .fn _ => by simp [okD] at h
  | 0, _, _, h, .fl _ _ => by simp [okD] at h
  | _ + 1, _, _, h, .fl _ _ => by simp [okD] at h
theorem RelDs.dp : ∀ {n : Nat} {d : List D} {v : List V}, (∀ x ∈ d, okD n x = true) → RelDs T K ρ H d v → DpAll K H v (toPs d)
  | _, _, _, _, .nil => by simp only [toPs]; exact .nil
  | n, _, _, h, .cons a b => by
    simp only [toPs]
    exact .cons (RelD.dp (n := n) (h _ List.mem_cons_self) a) (RelDs.dp (n := n) (fun x hx => h x (List.mem_cons_of_mem _ hx)) b)
end
end
mutual
theorem toP_plain : ∀ d, (toP d).plain = true
  | .non => by simp [toP, PyData.plain]
  | .bl _ => by simp [toP, PyData.plain]
  | .int _ => by simp [toP, PyData.plain]
  | .str _ => by simp [toP, PyData.plain]
  | .tup xs => by simp only [toP, PyData.plain]; exact toPs_plain xs
  | .ref _ => by simp [toP, PyData.plain]
  | .fn _ => by simp [toP, PyData.plain]
  | .exn _ _ => by simp [toP, PyData.plain]
  | .clo _ _ => by simp [toP, PyData.plain]
  | .fl _ => by simp [toP, PyData.plain]
theorem toPs_plain : ∀ d, PyData.plainAll (toPs d) = true
  | [] => by simp [toPs, PyData.plainAll]
  | x :: xs => by simp only [toPs, PyData.plainAll, toP_plain x, toPs_plain xs]; rfl
end
mutual
theorem toP_depth : ∀ n d, okD n d = true → (toP d).depth ≤ n
  | _, .non, _ => by simp [toP, PyData.depth]
  | _, .bl _, _ => by simp [toP, PyData.depth]
  | _, .int _, _ => by simp [toP, PyData.depth]
  | _, .str _, _ => by simp [toP, PyData.depth]
  | 0, .tup xs, h => by simp [okD] at h
  | n + 1, .tup xs, h => by
    have := toPs_depth n xs (by simpa [okD] using h)
    simp only [toP, PyData.depth]; omega
  | _, .ref _, h => by simp [toP, PyData.depth]
  | _, .fn _, h => by simp [toP, PyData.depth]
  | _, .exn _ _, h => by simp [toP, PyData.depth]
  | _, .clo _ _, h => by simp [toP, PyData.depth]
  | _, .fl _, h => by simp [toP, PyData.depth]
theorem toPs_depth : ∀ n d, (∀ x ∈ d, okD n x = true) → PyData.depthAll (toPs d) ≤ n
  | _, [], _ => by simp [toPs, PyData.depthAll]
  | n, x :: xs, h => by
    have h1 := toP_depth n x (h _ List.mem_cons_self)
    have h2 := toPs_depth n xs (fun y hy => h y (List.mem_cons_of_mem _ hy))
    simp only [toPs, PyData.depthAll]; omega
end
mutual
theorem toP_eqv : ∀ n m a b, okD n a = true → okD m b = true → PyData.eqv (toP a) (toP b) = eqT a b
  | _, _, .non, b, _, hb => by cases b <;> simp [toP, PyData.eqv, eqT, okD] at hb ⊢
  | _, _, .bl _, b, _, hb => by cases b <;> simp [toP, PyData.eqv, eqT, okD] at hb ⊢
  | _, _, .int _, b, _, hb => by cases b <;> simp [toP, PyData.eqv, eqT, okD] at hb ⊢
  | _, _, .str x, b, _, hb => by cases b <;> simp [toP, PyData.eqv, eqT, okD, Bool.beq_eq_decide_eq] at hb ⊢
  | 0, _, .tup xs, b, h, _ => by simp [okD] at h
  | n + 1, m, .tup xs, b, h, hb => by
    cases b with
    | tup ys =>
      cases m with
      | zero => simp [okD] at hb
      | succ m =>
        simp only [toP, PyData.eqv, eqT]
        exact toPs_eqv n m xs ys (by simpa [okD] using h) (by simpa [okD] using hb)
    | _ => simp [toP, PyData.eqv, eqT, okD] at hb ⊢
  | 0, _, .ref _, _, h, _ => by simp [okD] at h
  | 0, _, .fn _, _, h, _ => by simp [okD] at h
  | 0, _, .exn _ _, _, h, _ => by simp [okD] at h
  | 0, _, .clo _ _, _, h, _ => by simp [okD] at h
  | 0, _, .fl _, _, h, _ => by simp [okD] at h
  | _ + 1, _, .ref _, _, h, _ => by simp [okD] at h
  | _ + 1, _, .fn _, _, h, _ => by simp [okD] at h
  | _ + 1, _, .exn _ _, _, h, _ => by simp [okD] at h
  | _ + 1, _, .clo _ _, _, h, _ => by simp [okD] at h
  | _ + 1, _, .fl _, _, h, _ => by simp [okD] at h
theorem toPs_eqv : ∀ n m a b, (∀ x ∈ a, okD n x = true) → (∀ x ∈ b, okD m x = true) → PyData.eqvAll (toPs a) (toPs b) = eqTs a b
  | _, _, [], [], _, _ => by simp [toPs, PyData.eqvAll, eqTs]
  | _, _, [], _ :: _, _, _ => by simp [toPs, PyData.eqvAll, eqTs]
  | _, _, _ :: _, [], _, _ => by simp [toPs, PyData.eqvAll, eqTs]
  | n, m, x :: xs, y :: ys, h, hb => by
    simp only [toPs, PyData.eqvAll, eqTs]
    rw [toP_eqv n m x y (h _ List.mem_cons_self) (hb _ List.mem_cons_self), toPs_eqv n m xs ys (fun y hy => h y (List.mem_cons_of_mem _ hy)) (fun y hy => hb y (List.mem_cons_of_mem _ hy))]
end
section
variable {T : Tb} {X : Cx} {W : WX} {σ : St} {H : Hp} {ρ : List Addr} {pins : List (Addr × Obj)} {s : Shared}
theorem RelD.reads {n : Nat} {d : D} {v : V} {u : Value} (I : Inv X pins σ H s) (h : okD n d = true) (r : RelD T X.K ρ H d v) (rv : RelV v u) : ∃ as, Reads s.heap u (toP d) as := Dp.reads I _ _ _ (r.dp h) rv
theorem RelDs.reads {n : Nat} {d : List D} {v : List V} {u : List Value} (I : Inv X pins σ H s) (h : ∀ x ∈ d, okD n x = true) (r : RelDs T X.K ρ H d v) (rv : Vals v u) : ∃ as, ReadsAll s.heap u (toPs d) as := Dp.readsAll I _ _ _ (r.dp h) rv
/-- what == gives for plain data -/
def rEqT (T : Tb) (K : PySem.W.Frag) (neg : Bool) : R2 := fun x y H Q => ∃ ρ d e, RelD T K ρ H d x ∧ RelD T K ρ H e y ∧ okD 40 d = true ∧ okD 40 e = true ∧ Q (.bl (if neg then !eqT d e else eqT d e)) H
theorem op_eqT (hu : X.A.units + 64 < cLine) : OpR X (compareOp .Eq) (rEqT T X.K false) := by
  intro pins s σ H x y v u Q I rx ry h
  obtain ⟨ρ, d, e, hd, he, sd, se, q⟩ := h
  obtain ⟨as, r1⟩ := hd.reads I sd rx
  obtain ⟨bs, r2⟩ := he.reads I se ry
  have := toP_depth 40 d sd
  refine SeqAt.eq_plain r1 r2 (toP_plain d) (toP_plain e) (by have := Nat.min_le_left (toP d).depth (toP e).depth; omega) ⟨.bl _, H, I, rfl, ?_⟩
  rw [toP_eqv 40 40 d e sd se]; exact q
theorem op_neT (hu : X.A.units + 64 < cLine) : OpR X (compareOp .NotEq) (rEqT T X.K true) := by
  intro pins s σ H x y v u Q I rx ry h
  obtain ⟨ρ, d, e, hd, he, sd, se, q⟩ := h
  obtain ⟨as, r1⟩ := hd.reads I sd rx
  obtain ⟨bs, r2⟩ := he.reads I se ry
  have := toP_depth 40 d sd
  refine SeqAt.ne_plain r1 r2 (toP_plain d) (toP_plain e) (by have := Nat.min_le_left (toP d).depth (toP e).depth; omega) ⟨.bl _, H, I, rfl, ?_⟩
  rw [toP_eqv 40 40 d e sd se]; exact q
/-- two lists of plain data -/
def rEqL (T : Tb) (K : PySem.W.Frag) (neg : Bool) : R2 := fun x y H Q => ∃ ρ p q vs ws d e, x = .ref p ∧ y = .ref q ∧ H p = some (.lst vs) ∧ H q = some (.lst ws) ∧ RelDs T K ρ H d vs ∧ RelDs T K ρ H e ws ∧ (∀ x ∈ d, okD 40 x = true) ∧ (∀ x ∈ e, okD 40 x = true) ∧
  Q (.bl (if neg then !eqTs d e else eqTs d e)) H
theorem reads_list {p : Addr} {vs : List V} {d : List D} (I : Inv X pins σ H s) (h : H p = some (.lst vs)) (hd : ∀ x ∈ d, okD 40 x = true) (r : RelDs T X.K ρ H d vs) : ∃ as, Reads s.heap (.ref p) (.list (toPs d)) as :=
  Dp.reads I (.list (toPs d)) (.ref p) (.ref p) (.lst (SqL.of h) (r.dp hd)) rfl
theorem reads_tuple {p : Addr} {vs : List V} {d : List D} (I : Inv X pins σ H s) (h : SqT X.K H p vs) (hd : ∀ x ∈ d, okD 40 x = true) (r : RelDs T X.K ρ H d vs) : ∃ as, Reads s.heap (.ref p) (.tuple (toPs d)) as :=
  Dp.reads I (.tuple (toPs d)) (.ref p) (.ref p) (.tup h (r.dp hd)) rfl
theorem op_eqL (hu : X.A.units + 64 < cLine) : OpR X (compareOp .Eq) (rEqL T X.K false) := by
  intro pins s σ H x y v u Q I rx ry h
  obtain ⟨ρ, p, q', vs, ws, d, e, rfl, rfl, hp, hq, hd, he, sd, se, q⟩ := h
  cases rx; cases ry
  obtain ⟨as, r1⟩ := reads_list I hp sd hd
  obtain ⟨bs, r2⟩ := reads_list I hq se he
  have := toPs_depth 40 d sd
  refine SeqAt.eq_plain r1 r2 (by simp only [PyData.plain]; exact toPs_plain d) (by simp only [PyData.plain]; exact toPs_plain e) (by have := Nat.min_le_left (PyData.list (toPs d)).depth (PyData.list (toPs e)).depth; simp only [PyData.depth] at *; omega) ⟨.bl _, H, I, rfl, ?_⟩
  simp only [PyData.eqv]
  rw [toPs_eqv 40 40 d e sd se]; exact q
theorem op_neL (hu : X.A.units + 64 < cLine) : OpR X (compareOp .NotEq) (rEqL T X.K true) := by
  intro pins s σ H x y v u Q I rx ry h
  obtain ⟨ρ, p, q', vs, ws, d, e, rfl, rfl, hp, hq, hd, he, sd, se, q⟩ := h
  cases rx; cases ry
  obtain ⟨as, r1⟩ := reads_list I hp sd hd
  obtain ⟨bs, r2⟩ := reads_list I hq se he
  have := toPs_depth 40 d sd
  refine SeqAt.ne_plain r1 r2 (by simp only [PyData.plain]; exact toPs_plain d) (by simp only [PyData.plain]; exact toPs_plain e) (by have := Nat.min_le_left (PyData.list (toPs d)).depth (PyData.list (toPs e)).depth; simp only [PyData.depth] at *; omega) ⟨.bl _, H, I, rfl, ?_⟩
  simp only [PyData.eqv]
  rw [toPs_eqv 40 40 d e sd se]; exact q
theorem any_toP {d : D} {xs : List D} (hd : okD 40 d = true) : (∀ x ∈ xs, okD 40 x = true) → ((toPs xs).any fun y => PyData.eqv y (toP d)) = inB d xs := by
  induction xs with
  | nil => intro _; simp [toPs, inB]
  | cons x xs ih =>
    intro h
    have := ih fun y hy => h y (List.mem_cons_of_mem _ hy)
    simp only [toPs, List.any_cons, inB] at *
    rw [toP_eqv 40 40 x d (h _ List.mem_cons_self) hd, this]
def rInT (T : Tb) (K : PySem.W.Frag) (neg : Bool) : R2 := fun x y H Q => ∃ ρ p d e vs, y = .ref p ∧ RelD T K ρ H d x ∧ (H p = some (.lst vs) ∨ SqT K H p vs) ∧ RelDs T K ρ H e vs ∧ okD 40 d = true ∧ (∀ x ∈ e, okD 40 x = true) ∧ Q (.bl (if neg then !inB d e else inB d e)) H
theorem op_inT (hu : X.A.units + 64 < cLine) : OpR X (compareOp .In) (rInT T X.K false) := by
  intro pins s σ H x y v u Q I rx ry h
  obtain ⟨ρ, p, d, e, vs, rfl, hd, hp, he, sd, se, q⟩ := h
  cases ry
  obtain ⟨as, r1⟩ := hd.reads I sd rx
  have := toPs_depth 40 e se
  have hb : X.A.units + 1 + min (PyData.depthAll (toPs e)) (toP d).depth < cLine := by have := Nat.min_le_left (PyData.depthAll (toPs e)) (toP d).depth; omega
  rcases hp with hp | hp
  · obtain ⟨bs, r2⟩ := reads_list I hp se he
    refine SeqAt.in_list_data r2 r1 (toPs_plain e) (toP_plain d) hb ⟨.bl _, H, I, rfl, ?_⟩
    rw [any_toP sd se]; exact q
  · obtain ⟨bs, r2⟩ := reads_tuple I hp se he
    refine SeqAt.in_tuple_data r2 r1 (toPs_plain e) (toP_plain d) hb ⟨.bl _, H, I, rfl, ?_⟩
    rw [any_toP sd se]; exact q
theorem op_notInT (hu : X.A.units + 64 < cLine) : OpR X (compareOp .NotIn) (rInT T X.K true) := by
  intro pins s σ H x y v u Q I rx ry h
  obtain ⟨ρ, p, d, e, vs, rfl, hd, hp, he, sd, se, q⟩ := h
  cases ry
  obtain ⟨as, r1⟩ := hd.reads I sd rx
  have := toPs_depth 40 e se
  have hb : X.A.units + 1 + min (PyData.depthAll (toPs e)) (toP d).depth < cLine := by have := Nat.min_le_left (PyData.depthAll (toPs e)) (toP d).depth; omega
  rcases hp with hp | hp
  · obtain ⟨bs, r2⟩ := reads_list I hp se he
    refine SeqAt.notIn_list_data r2 r1 (toPs_plain e) (toP_plain d) hb ⟨.bl _, H, I, rfl, ?_⟩
    rw [any_toP sd se]; exact q
  · obtain ⟨bs, r2⟩ := reads_tuple I hp se he
    refine SeqAt.notIn_tuple_data r2 r1 (toPs_plain e) (toP_plain d) hb ⟨.bl _, H, I, rfl, ?_⟩
    rw [any_toP sd se]; exact q
end
end Hr

/-! Operators by values. -/
namespace Hr
open PySem PySem.Spec PyProof.Rows L2
section
variable {T : Tb} {X : Cx} {W : WX} {σ : St} {H : Hp} {ρ : List Addr} {st : Sto} {d e : D} {x y : V} {Q : VK}
theorem two64 : (2 : Int) ^ 64 = big64 := by decide
theorem two63 : (2 : Int) ^ 63 = big63 := by decide
theorem opAdd : OpR X (binaryOp .Add) (fun x y H Q => (rI0 fun i j => .int (i + j)) x y H Q ∨ (∃ i j, x = .str i ∧ y = .str j ∧ i.length + j.length ≤ sizeLine ∧ Q (.str (i ++ j)) H) ∨ rCatA X.K x y H Q ∨ rCat x y H Q) :=
  OpR.or op_add (OpR.or op_add_str (OpR.or op_catA op_cat))
theorem val_add (R0 : Rel T X.K ρ st H) (hd : RelD T X.K ρ H d x) (he : RelD T X.K ρ H e y) (h : Ans T X.K (RelD T X.K) W ρ H σ (addV d e st) Q) :
    (rI0 fun i j => .int (i + j)) x y H Q ∨ (∃ i j, x = .str i ∧ y = .str j ∧ i.length + j.length ≤ sizeLine ∧ Q (.str (i ++ j)) H) ∨ rCatA X.K x y H Q ∨ rCat x y H Q := by
  cases hd with
  | int i =>
    cases he with
    | int j => exact .inl ⟨i, j, rfl, rfl, h.done R0 (.int _)⟩
    | _ => exact h.elim
  | str a =>
    cases he with
    | str b =>
      obtain ⟨h1, h⟩ := grd_ok h
      exact .inr (.inl ⟨a, b, rfl, rfl, of_decide_eq_true h1, h.done R0 (.str _)⟩)
    | _ => exact h.elim
  | @tup a xs vs sq rs =>
    cases he with
    | @tup b ys ws sq2 rs2 =>
      obtain ⟨h1, h⟩ := grd_ok h
      have h1 := of_decide_eq_true h1
      rw [rs.length, rs2.length] at h1
      refine .inr (.inr (.inl ⟨a, b, vs, ws, rfl, rfl, sq, sq2, h1, fun e0 => ?_, fun _ e0 => ?_, fun _ _ p hp => ?_⟩))
      · subst e0; cases rs; exact h.done R0 (.tup sq2 rs2)
      · subst e0; cases rs2; exact h.done R0 (by rw [List.append_nil]; exact .tup sq rs)
      · exact h.tup R0 hp (rs.append rs2)
    | _ => exact h.elim
  | @ref n p hp =>
    cases he with
    | @ref m q hq =>
      cases e1 : st.get n with
      | none => simp only [addV, e1] at h; exact h.elim
      | some o1 =>
        cases e2 : st.get m with
        | none => cases o1 <;> (simp only [addV, e1, e2] at h; exact h.elim)
        | some o2 =>
          cases o1 with
          | lst xs =>
            cases o2 with
            | lst ys =>
              simp only [addV, e1, e2] at h
              obtain ⟨h1, h⟩ := grd_ok h
              have h1 := of_decide_eq_true h1
              obtain ⟨vs, g1, r1⟩ := R0.lst hp e1
              obtain ⟨ws, g2, r2⟩ := R0.lst hq e2
              rw [r1.length, r2.length] at h1
              exact .inr (.inr (.inr ⟨p, q, vs, ws, rfl, rfl, g1, g2, h1, fun c hc => h.made R0 hc (.lst (r1.append r2))⟩))
            | _ => simp only [addV, e1, e2] at h; exact h.elim
          | _ => simp only [addV, e1, e2] at h; exact h.elim
    | _ => exact h.elim
  | _ => cases he <;> exact h.elim
theorem opMul : OpR X (binaryOp .Mult) (fun x y H Q => (rI CMul fun i j => .int (i * j)) x y H Q ∨ rRepT X.K x y H Q ∨ rRep x y H Q) := OpR.or op_mul (OpR.or op_repT op_rep)
theorem val_mul (R0 : Rel T X.K ρ st H) (hd : RelD T X.K ρ H d x) (he : RelD T X.K ρ H e y) (h : Ans T X.K (RelD T X.K) W ρ H σ (mulV d e st) Q) :
    (rI CMul fun i j => .int (i * j)) x y H Q ∨ rRepT X.K x y H Q ∨ rRep x y H Q := by
  cases hd with
  | int i =>
    cases he with
    | int j =>
      obtain ⟨h1, h⟩ := grd_ok h
      refine .inl ⟨i, j, rfl, rfl, ?_, h.done R0 (.int _)⟩
      unfold mulOk at h1
      simp only [Bool.or_eq_true, Bool.and_eq_true, decide_eq_true_eq] at h1
      unfold CMul
      rw [two64]; exact h1
    | _ => exact h.elim
  | @tup a xs vs sq rs =>
    cases he with
    | int k =>
      obtain ⟨h1, h⟩ := grd_ok h
      unfold repOkT at h1
      simp only [Bool.and_eq_true, decide_eq_true_eq] at h1
      obtain ⟨⟨⟨h1, h2⟩, h3⟩, h4⟩ := h1
      rw [rs.length] at h1 h4
      exact .inr (.inl ⟨a, k, vs, rfl, rfl, sq, fun e0 => by subst e0; simp at h1, h2, h3, h4, fun p hp => h.tup R0 hp (rs.flat _)⟩)
    | _ => exact h.elim
  | @ref n p hp =>
    cases he with
    | int k =>
      cases e1 : st.get n with
      | none => simp only [mulV, e1] at h; exact h.elim
      | some o1 =>
        cases o1 with
        | lst xs =>
          simp only [mulV, e1] at h
          obtain ⟨h1, h⟩ := grd_ok h
          unfold repOk at h1
          simp only [Bool.and_eq_true, decide_eq_true_eq] at h1
          obtain ⟨⟨h1, h2⟩, h3⟩ := h1
          obtain ⟨vs, g1, r1⟩ := R0.lst hp e1
          rw [r1.length] at h3
          exact .inr (.inr ⟨p, k, vs, rfl, rfl, g1, by rw [two63]; exact h1, by rw [two63]; exact h2, h3, fun c hc => h.made R0 hc (.lst (r1.flat _))⟩)
        | _ => simp only [mulV, e1] at h; exact h.elim
    | _ => exact h.elim
  | _ => cases he <;> exact h.elim
theorem val_sub (R0 : Rel T X.K ρ st H) (hd : RelD T X.K ρ H d x) (he : RelD T X.K ρ H e y) (h : Ans T X.K (RelD T X.K) W ρ H σ (binV .sub d e st) Q) : (rI0 fun i j => .int (i - j)) x y H Q := by
  cases hd with
  | int i =>
    cases he with
    | int j => exact ⟨i, j, rfl, rfl, h.done R0 (.int _)⟩
    | _ => exact h.elim
  | _ => cases he <;> exact h.elim
theorem val_fdiv (R0 : Rel T X.K ρ st H) (hd : RelD T X.K ρ H d x) (he : RelD T X.K ρ H e y) (h : Ans T X.K (RelD T X.K) W ρ H σ (binV .fdiv d e st) Q) : (rI CDivN fun i j => .int (i.fdiv j)) x y H Q := by
  cases hd with
  | int i =>
    cases he with
    | int j =>
      obtain ⟨h1, h⟩ := grd_ok h
      simp only [Bool.and_eq_true, decide_eq_true_eq] at h1
      exact ⟨i, j, rfl, rfl, h1, h.done R0 (.int _)⟩
    | _ => exact h.elim
  | _ => cases he <;> exact h.elim
theorem val_mod (R0 : Rel T X.K ρ st H) (hd : RelD T X.K ρ H d x) (he : RelD T X.K ρ H e y) (h : Ans T X.K (RelD T X.K) W ρ H σ (binV .mod d e st) Q) : (rI (fun _ j => j ≠ 0) fun i j => .int (i.fmod j)) x y H Q := by
  cases hd with
  | int i =>
    cases he with
    | int j =>
      obtain ⟨h1, h⟩ := grd_ok h
      exact ⟨i, j, rfl, rfl, of_decide_eq_true h1, h.done R0 (.int _)⟩
    | _ => exact h.elim
  | _ => cases he <;> exact h.elim
theorem val_pow (R0 : Rel T X.K ρ st H) (hd : RelD T X.K ρ H d x) (he : RelD T X.K ρ H e y) (h : Ans T X.K (RelD T X.K) W ρ H σ (binV .pow d e st) Q) : (rI CPow fun i j => .int (i ^ j.toNat)) x y H Q := by
  cases hd with
  | int i =>
    cases he with
    | int j =>
      obtain ⟨h1, h⟩ := grd_ok h
      simp only [Bool.and_eq_true, decide_eq_true_eq] at h1
      refine ⟨i, j, rfl, rfl, ⟨h1.1.1, h1.1.2, ?_⟩, h.done R0 (.int _)⟩
      have : (2 : Nat) ^ 64 = 18446744073709551616 := by decide
      rw [this]; exact h1.2
    | _ => exact h.elim
  | _ => cases he <;> exact h.elim
def opOf : BOp → Operator
  | .add => .Add
  | .sub => .Sub
  | .mul => .Mult
  | .fdiv => .FloorDiv
  | .mod => .Mod
  | .pow => .Pow
/-- an operator's rule with what it reads -/
theorem binR (op : BOp) : ∃ r : R2, OpR X (binaryOp (opOf op)) r ∧ ∀ ρ H st σ d e x y Q, Rel T X.K ρ st H → RelD T X.K ρ H d x → RelD T X.K ρ H e y → Ans T X.K (RelD T X.K) W ρ H σ (binV op d e st) Q → r x y H Q := by
  cases op with
  | add => exact ⟨_, opAdd, fun _ _ _ _ _ _ _ _ _ R0 hd he h => val_add R0 hd he h⟩
  | sub => exact ⟨_, op_sub, fun _ _ _ _ _ _ _ _ _ R0 hd he h => val_sub R0 hd he h⟩
  | mul => exact ⟨_, opMul, fun _ _ _ _ _ _ _ _ _ R0 hd he h => val_mul R0 hd he h⟩
  | fdiv => exact ⟨_, op_fdivN, fun _ _ _ _ _ _ _ _ _ R0 hd he h => val_fdiv R0 hd he h⟩
  | mod => exact ⟨_, op_modN, fun _ _ _ _ _ _ _ _ _ R0 hd he h => val_mod R0 hd he h⟩
  | pow => exact ⟨_, op_pow, fun _ _ _ _ _ _ _ _ _ R0 hd he h => val_pow R0 hd he h⟩
def rAug (op : BOp) : R2 := fun x y H Q => ∃ d e z, (∀ ρ K T, RelD T K ρ H d x) ∧ (∀ ρ K T, RelD T K ρ H e y) ∧ augV op d e = some z ∧ ∀ v, (∀ ρ K T, RelD T K ρ H z v) → Q v H
theorem augR' (op : BOp) : ∃ r : R2, OpR X (inplaceOp (opOf op)) r ∧ ∀ ρ H d e z x y Q, RelD T X.K ρ H d x → RelD T X.K ρ H e y → augV op d e = some z → (∀ v, RelD T X.K ρ H z v → Q v H) → r x y H Q := by
  cases op with
  | add =>
    refine ⟨_, iop_add, fun ρ H d e z x y Q hd he h q => ?_⟩
    cases hd with
    | int i =>
      cases he with
      | int j => simp only [augV, Option.some.injEq] at h; subst h; exact ⟨i, j, rfl, rfl, q _ (.int _)⟩
      | _ => simp [augV] at h
    | _ => cases he <;> simp [augV] at h
  | sub =>
    refine ⟨_, iop_sub, fun ρ H d e z x y Q hd he h q => ?_⟩
    cases hd with
    | int i =>
      cases he with
      | int j => simp only [augV, Option.some.injEq] at h; subst h; exact ⟨i, j, rfl, rfl, q _ (.int _)⟩
      | _ => simp [augV] at h
    | _ => cases he <;> simp [augV] at h
  | mul => exact ⟨_, iop_mul, fun ρ H d e z x y Q hd he h q => by simp [augV] at h⟩
  | fdiv => exact ⟨_, iop_fdiv, fun ρ H d e z x y Q hd he h q => by simp [augV] at h⟩
  | mod => exact ⟨_, iop_mod, fun ρ H d e z x y Q hd he h q => by simp [augV] at h⟩
  | pow => exact ⟨fun _ _ _ _ => False, fun _ _ _ _ _ _ _ _ _ _ _ _ h => h.elim, fun ρ H d e z x y Q hd he h q => by simp [augV] at h⟩
/-! ### order of plain data -/
mutual
theorem alike_toP : ∀ a b, cmpb a b = true → PySem.W.alike (toP a) (toP b) = true
  | .int _, .int _, _ => by simp [toP, PySem.W.alike]
  | .str _, .str _, _ => by simp [toP, PySem.W.alike]
  | .tup xs, .tup ys, h => by simp only [toP, PySem.W.alike]; exact alike_toPs xs ys (by simpa [cmpb] using h)
  | .non, b, h => by simp [cmpb] at h
  | .bl _, b, h => by simp [cmpb] at h
  | .ref _, b, h => by simp [cmpb] at h
  | .fn _, b, h => by simp [cmpb] at h
  | .exn _ _, b, h => by simp [cmpb] at h
  | .clo _ _, b, h => by simp [cmpb] at h
  | .int _, .non, h | .int _, .bl _, h | .int _, .str _, h | .int _, .tup _, h | .int _, .ref _, h | .int _, .fn _, h | .int _, .exn _ _, h | .int _, .clo _ _, h => by simp [cmpb] at h
  | .str _, .non, h | .str _, .bl _, h | .str _, .int _, h | .str _, .tup _, h | .str _, .ref _, h | .str _, .fn _, h | .str _, .exn _ _, h | .str _, .clo _ _, h => by simp [cmpb] at h
  | .tup _, .non, h | .tup _, .bl _, h | .tup _, .int _, h | .tup _, .str _, h | .tup _, .ref _, h | .tup _, .fn _, h | .tup _, .exn _ _, h | .tup _, .clo _ _, h => by simp [cmpb] at h
theorem alike_toPs : ∀ a b, cmpbs a b = true → PySem.W.alikeAll (toPs a) (toPs b) = true
  | [], _, _ => by simp [toPs, PySem.W.alikeAll]
  | _ :: _, [], _ => by simp [toPs, PySem.W.alikeAll]
  | x :: xs, y :: ys, h => by
    simp only [cmpbs, Bool.and_eq_true] at h
    simp only [toPs, PySem.W.alikeAll, alike_toP x y h.1, alike_toPs xs ys h.2]; rfl
end
mutual
/-- depth without a bound -/
theorem eqv_toP : ∀ a b, cmpb a b = true → PyData.eqv (toP a) (toP b) = eqT a b
  | .int _, .int _, _ => by simp [toP, PyData.eqv, eqT]
  | .str _, .str _, _ => by simp [toP, PyData.eqv, eqT, Bool.beq_eq_decide_eq]
  | .tup xs, .tup ys, h => by simp only [toP, PyData.eqv, eqT]; exact eqv_toPs xs ys (by simpa [cmpb] using h)
  | .non, b, h => by simp [cmpb] at h
  | .bl _, b, h => by simp [cmpb] at h
  | .ref _, b, h => by simp [cmpb] at h
  | .fn _, b, h => by simp [cmpb] at h
  | .exn _ _, b, h => by simp [cmpb] at h
  | .clo _ _, b, h => by simp [cmpb] at h
  | .int _, .non, h | .int _, .bl _, h | .int _, .str _, h | .int _, .tup _, h | .int _, .ref _, h | .int _, .fn _, h | .int _, .exn _ _, h | .int _, .clo _ _, h => by simp [cmpb] at h
  | .str _, .non, h | .str _, .bl _, h | .str _, .int _, h | .str _, .tup _, h | .str _, .ref _, h | .str _, .fn _, h | .str _, .exn _ _, h | .str _, .clo _ _, h => by simp [cmpb] at h
  | .tup _, .non, h | .tup _, .bl _, h | .tup _, .int _, h | .tup _, .str _, h | .tup _, .ref _, h | .tup _, .fn _, h | .tup _, .exn _ _, h | .tup _, .clo _ _, h => by simp [cmpb] at h
theorem eqv_toPs : ∀ a b, cmpbs a b = true → PyData.eqvAll (toPs a) (toPs b) = eqTs a b
  | [], [], _ => by simp [toPs, PyData.eqvAll, eqTs]
  | [], _ :: _, _ => by simp [toPs, PyData.eqvAll, eqTs]
  | _ :: _, [], _ => by simp [toPs, PyData.eqvAll, eqTs]
  | x :: xs, y :: ys, h => by
    simp only [cmpbs, Bool.and_eq_true] at h
    simp only [toPs, PyData.eqvAll, eqTs, eqv_toP x y h.1, eqv_toPs xs ys h.2]
end
mutual
theorem lt_toP : ∀ a b, cmpb a b = true → PySem.W.dataLt (toP a) (toP b) = ltB a b
  | .int _, .int _, _ => by simp only [toP, ltB]; exact PySem.W.dataLt_int _ _
  | .str _, .str _, _ => by simp only [toP, ltB, strLt]; exact PySem.W.dataLt_str _ _
  | .tup xs, .tup ys, h => by simp only [toP, ltB, PySem.W.dataLt_tuple]; exact lt_toPs xs ys (by simpa [cmpb] using h)
  | .non, b, h => by simp [cmpb] at h
  | .bl _, b, h => by simp [cmpb] at h
  | .ref _, b, h => by simp [cmpb] at h
  | .fn _, b, h => by simp [cmpb] at h
  | .exn _ _, b, h => by simp [cmpb] at h
  | .clo _ _, b, h => by simp [cmpb] at h
  | .int _, .non, h | .int _, .bl _, h | .int _, .str _, h | .int _, .tup _, h | .int _, .ref _, h | .int _, .fn _, h | .int _, .exn _ _, h | .int _, .clo _ _, h => by simp [cmpb] at h
  | .str _, .non, h | .str _, .bl _, h | .str _, .int _, h | .str _, .tup _, h | .str _, .ref _, h | .str _, .fn _, h | .str _, .exn _ _, h | .str _, .clo _ _, h => by simp [cmpb] at h
  | .tup _, .non, h | .tup _, .bl _, h | .tup _, .int _, h | .tup _, .str _, h | .tup _, .ref _, h | .tup _, .fn _, h | .tup _, .exn _ _, h | .tup _, .clo _ _, h => by simp [cmpb] at h
theorem lt_toPs : ∀ a b, cmpbs a b = true → PyProof.Rows.lexLt PyProof.Rows.itemOrd (PySem.W.keyToksAll (toPs a)) (PySem.W.keyToksAll (toPs b)) = ltBs a b
  | [], [], _ => by simp only [toPs, ltBs]; rfl
  | [], _ :: _, _ => by simp only [toPs, ltBs, PySem.W.keyToksAll]; rfl
  | _ :: _, [], _ => by simp only [toPs, ltBs, PySem.W.keyToksAll]; rfl
  | x :: xs, y :: ys, h => by
    simp only [cmpbs, Bool.and_eq_true] at h
    have hal := alike_toP x y h.1
    have he := eqv_toP x y h.1
    simp only [toPs, ltBs]
    cases q : eqT x y with
    | true => rw [PySem.W.dataLt_all_yes hal (by rw [he]; exact q)]; exact lt_toPs xs ys h.2
    | false => rw [PySem.W.dataLt_all_no hal (by rw [he]; exact q)]; exact lt_toP x y h.1
end

end
section
variable {T : Tb} {X : Cx} {W : WX} {σ : St} {H : Hp} {ρ : List Addr} {st : Sto} {d e : D} {x y : V} {Q : VK}
def rLtG (T : Tb) (K : PySem.W.Frag) : R2 := fun x y H Q => ∃ ρ d e, RelD T K ρ H d x ∧ RelD T K ρ H e y ∧ okD 40 d = true ∧ okD 40 e = true ∧ cmpb d e = true ∧ Q (.bl (ltB d e)) H
theorem op_ltG (hu : X.A.units + 64 < cLine) : OpR X (compareOp .Lt) (rLtG T X.K) := by
  intro pins s σ H x y v u Q I rx ry h
  obtain ⟨ρ, d, e, hd, he, sd, se, sc, q⟩ := h
  obtain ⟨as, r1⟩ := hd.reads I sd rx
  obtain ⟨bs, r2⟩ := he.reads I se ry
  have := toP_depth 40 d sd
  refine PySem.W.rcLt_alike _ _ _ _ _ _ _ _ r1 r2 (alike_toP d e sc) (fun z => ?_) (by have := Nat.min_le_left (toP d).depth (toP e).depth; omega) X.prog X.w _ _ ⟨.bl _, H, I, rfl, ?_⟩
  · cases d <;> simp [toP, cmpb] at z sc
  · rw [lt_toP d e sc]; exact q
def copOf : COp → CmpOp
  | .eq => .Eq
  | .ne => .NotEq
  | .lt => .Lt
  | .le => .LtE
  | .gt => .Gt
  | .ge => .GtE
  | .isin => .In
  | .notin => .NotIn
theorem eq_val (R0 : Rel T X.K ρ st H) (hd : RelD T X.K ρ H d x) (he : RelD T X.K ρ H e y) {b : Bool} {neg : Bool} (h : eqV d e st = some b) (q : Q (.bl (if neg then !b else b)) H) : rEqT T X.K neg x y H Q ∨ rEqL T X.K neg x y H Q := by
  have flat : ∀ {b}, (if okD 40 d && okD 40 e then some (eqT d e) else none) = some b → Q (.bl (if neg then !b else b)) H → rEqT T X.K neg x y H Q := fun h q => by
    split at h
    · next c =>
      simp only [Bool.and_eq_true] at c
      cases h
      exact ⟨ρ, d, e, hd, he, c.1, c.2, q⟩
    · cases h
  cases hd with
  | @ref n p hp =>
    cases he with
    | @ref m p2 hq =>
      cases e1 : st.get n with
      | none => simp only [eqV, e1] at h; cases h
      | some o1 =>
        cases e2 : st.get m with
        | none => cases o1 <;> (simp only [eqV, e1, e2] at h; cases h)
        | some o2 =>
          cases o1 with
          | lst xs =>
            cases o2 with
            | lst ys =>
              simp only [eqV, e1, e2] at h
              split at h
              · next c =>
                simp only [Bool.and_eq_true, List.all_eq_true] at c
                cases h
                obtain ⟨vs, g1, r1⟩ := R0.lst hp e1
                obtain ⟨ws, g2, r2⟩ := R0.lst hq e2
                exact .inr ⟨ρ, p, p2, vs, ws, xs, ys, rfl, rfl, g1, g2, r1, r2, c.1, c.2, q⟩
              · cases h
            | _ => simp only [eqV, e1, e2] at h; cases h
          | _ => simp only [eqV, e1, e2] at h; cases h
    | _ => exact .inl (flat h q)
  | _ => cases he <;> exact .inl (flat h q)
def rInS (neg : Bool) : R2 := fun x y H Q => ∃ (c : Nat) (z : Str), x = .str ⟨#[c]⟩ ∧ y = .str z ∧ Q (.bl (if neg then !decide (c ∈ z.cps.toList) else decide (c ∈ z.cps.toList))) H
theorem op_inS : OpR X (compareOp .In) (rInS false) := fun pins s σ H x y v u Q I rx ry ⟨c, z, e1, e2, q⟩ => op_in_sign pins s σ H x y v u Q I rx ry ⟨c, z, e1, e2, q⟩
theorem op_ninS : OpR X (compareOp .NotIn) (rInS true) := fun pins s σ H x y v u Q I rx ry ⟨c, z, e1, e2, q⟩ => op_notIn_sign pins s σ H x y v u Q I rx ry ⟨c, z, e1, e2, q⟩
theorem in_val (R0 : Rel T X.K ρ st H) (hd : RelD T X.K ρ H d x) (he : RelD T X.K ρ H e y) {b : Bool} {neg : Bool} (h : inV d e st = some b) (q : Q (.bl (if neg then !b else b)) H) : rInT T X.K neg x y H Q ∨ rInS neg x y H Q := by
  cases he with
  | @tup a xs vs sq rs =>
    simp only [inV] at h
    split at h
    · next c =>
      simp only [Bool.and_eq_true, List.all_eq_true] at c
      cases h
      exact .inl ⟨ρ, a, d, xs, vs, rfl, hd, .inr sq, rs, c.1, c.2, q⟩
    · cases h
  | str z =>
    cases hd with
    | str c =>
      simp only [inV] at h
      split at h
      · next k hk =>
        cases h
        refine .inr ⟨k, z, ?_, rfl, q⟩
        have : c = ⟨#[k]⟩ := by
          cases c with | mk a => simp only at hk; have := congrArg List.toArray hk; simp at this; rw [this]
        rw [this]
      · cases h
    | _ => simp [inV] at h
  | @ref n p hp =>
    cases e1 : st.get n with
    | none => simp only [inV, e1] at h; cases h
    | some o1 =>
      cases o1 with
      | lst xs =>
        simp only [inV, e1] at h
        split at h
        · next c =>
          simp only [Bool.and_eq_true, List.all_eq_true] at c
          cases h
          obtain ⟨vs, g1, r1⟩ := R0.lst hp e1
          exact .inl ⟨ρ, p, d, xs, vs, rfl, hd, .inl g1, r1, c.1, c.2, q⟩
        · cases h
      | _ => simp only [inV, e1] at h; cases h
  | _ => simp [inV] at h
theorem int_val {f : D → D → Option Bool} {p : Int → Int → Bool} (hf : ∀ d e, f d e = match d, e with
    | .int i, .int j => some (p i j)
    | _, _ => none) (hd : RelD T X.K ρ H d x) (he : RelD T X.K ρ H e y) {b : Bool} (h : f d e = some b) (q : Q (.bl b) H) : (rI0 fun i j => .bl (p i j)) x y H Q := by
  rw [hf] at h
  cases hd with
  | int i =>
    cases he with
    | int j => cases h; exact ⟨i, j, rfl, rfl, q⟩
    | _ => cases h
  | _ => cases he <;> cases h
theorem cmpR (hu : X.A.units + 64 < cLine) (op : COp) : ∃ r : R2, OpR X (compareOp (copOf op)) r ∧ ∀ ρ H st d e x y b Q, Rel T X.K ρ st H → RelD T X.K ρ H d x → RelD T X.K ρ H e y → cmpV op d e st = some b → Q (.bl b) H → r x y H Q := by
  cases op with
  | eq => exact ⟨_, OpR.or (op_eqT (T := T) hu) (op_eqL (T := T) hu), fun ρ H st d e x y b Q R0 hd he h q => eq_val (neg := false) R0 hd he h q⟩
  | ne =>
    refine ⟨_, OpR.or (op_neT (T := T) hu) (op_neL (T := T) hu), fun ρ H st d e x y b Q R0 hd he h q => ?_⟩
    simp only [cmpV, Option.map_eq_some_iff] at h
    obtain ⟨k, h, rfl⟩ := h
    exact eq_val (neg := true) R0 hd he h q
  | lt =>
    refine ⟨_, op_ltG (T := T) hu, fun ρ H st d e x y b Q R0 hd he h q => ?_⟩
    simp only [cmpV] at h
    split at h
    · next c =>
      simp only [Bool.and_eq_true] at c
      cases h
      exact ⟨ρ, d, e, hd, he, c.1.1, c.1.2, c.2, q⟩
    · cases h
  | le => exact ⟨_, op_le, fun ρ H st d e x y b Q R0 hd he h q => int_val (f := fun d e => cmpV .le d e st) (fun _ _ => rfl) hd he h q⟩
  | gt => exact ⟨_, op_gt, fun ρ H st d e x y b Q R0 hd he h q => int_val (f := fun d e => cmpV .gt d e st) (fun _ _ => rfl) hd he h q⟩
  | ge => exact ⟨_, op_ge, fun ρ H st d e x y b Q R0 hd he h q => int_val (f := fun d e => cmpV .ge d e st) (fun _ _ => rfl) hd he h q⟩
  | isin => exact ⟨_, OpR.or (op_inT (T := T) hu) op_inS, fun ρ H st d e x y b Q R0 hd he h q => in_val (neg := false) R0 hd he h q⟩
  | notin =>
    refine ⟨_, OpR.or (op_notInT (T := T) hu) op_ninS, fun ρ H st d e x y b Q R0 hd he h q => ?_⟩
    simp only [cmpV, Option.map_eq_some_iff] at h
    obtain ⟨k, h, rfl⟩ := h
    exact in_val (neg := true) R0 hd he h q
end
end Hr

/-! Expressions, rule by rule. -/
namespace Hr
open PySem PySem.Spec PyProof.Rows L2
section
variable {T : Tb} {X : Cx} {W : WX} {G : Pg} {C : Calls}
theorem truR_ok {ρ : List Addr} {H : Hp} {σ : St} {r : R D} {Q : Bool → Hp → Prop} (h : Ans T X.K RB W ρ H σ (truR r) Q) : Ans T X.K (RelD T X.K) W ρ H σ r (fun v H' => ∃ b, v = .bl b ∧ Q b H') := by
  refine (Ans.bind (RV := RelD T X.K) h).imp fun v ρ' H' d st' _ x R1 rd q => ?_
  obtain ⟨d2, st2, ρ2, _, x2, R2, r2, a⟩ := q
  obtain ⟨b, e, a⟩ := ofO_ok a
  cases r2 with
  | bl k => simp only [truB, Option.some.injEq] at e; subst e; exact ⟨_, rfl, a.done R2 rfl⟩
  | _ => simp [truB] at e
/-- a value as a test -/
theorem sT_val {e : Expr} {m : Env → Sto → R D} (h : PE X e (tE T X.K W m)) (he : ∀ whole, isTrue e X.env whole = (do let v ← whole; standAt e.pos; holding [v] (truthy v))) : PT X e (tT T X.K W fun env st => truR (m env st)) := by
  refine PT.weak (pt_val h he) fun σ H Q h => ?_
  obtain ⟨ρ, env, st, R0, E0, a⟩ := h
  exact ⟨ρ, env, st, R0, E0, truR_ok a⟩
/-- not, as a test -/
theorem sT_not {e : Expr} {m : Env → Sto → R Bool} {pos : Pos} (h : PT X e (tT T X.K W m)) : PT X (.UnaryOp .Not e pos) (tT T X.K W fun env st => (m env st).bind fun b st1 => .ok (!b) st1) := by
  refine PT.weak (pt_not h) fun σ H Q h => ?_
  obtain ⟨ρ, env, st, R0, E0, a⟩ := h
  refine (step R0 E0 a).imp fun c H1 q => ?_
  obtain ⟨b, st1, ρ1, R1, E1, X1, rfl, q⟩ := q
  exact q.done R1 rfl
/-- an operator's comparison at two values -/
theorem cmp_done {ρ : List Addr} {H : Hp} {σ : St} {op : COp} {r : R2} {d e : D} {x y : V} {st : Sto} {Q : VK}
    (hr : ∀ ρ H st d e x y b Q, Rel T X.K ρ st H → RelD T X.K ρ H d x → RelD T X.K ρ H e y → cmpV op d e st = some b → Q (.bl b) H → r x y H Q)
    (R2 : Rel T X.K ρ st H) (r1 : RelD T X.K ρ H d x) (r2 : RelD T X.K ρ H e y) (q : Ans T X.K (RelD T X.K) W ρ H σ ((ofO (cmpV op d e st) st).bind fun k st3 => .ok (.bl k) st3) Q) : r x y H Q := by
  cases hc : cmpV op d e st with
  | none => rw [hc] at q; exact q.elim
  | some k =>
    rw [hc] at q
    exact hr ρ H st d e x y k Q R2 r1 r2 hc (Ans.done q R2 (.bl k))
/-! ### comparisons -/
theorem sE_cmp {a b : Expr} {ma mb : Env → Sto → R D} {pos : Pos} {op : COp} (hu : X.A.units + 64 < cLine) (ha : PE X a (tE T X.K W ma)) (hb : PE X b (tE T X.K W mb)) (hm : behindInMarks (copOf op) b = false) :
    PE X (.Compare a [copOf op] [b] pos) (tE T X.K W fun env st => (ma env st).bind fun x st1 => (mb env st1).bind fun y st2 => (ofO (cmpV op x y st2) st2).bind fun k st3 => .ok (.bl k) st3) := by
  obtain ⟨r, ho, hr⟩ := cmpR (T := T) (X := X) hu op
  refine PE.weak (pe_cmpR ho ha hb hm) fun σ H Q h => ?_
  obtain ⟨ρ, env, st, R0, E0, h⟩ := h
  refine (step R0 E0 h).imp fun x H1 q => ?_
  obtain ⟨d, st1, ρ1, R1, E1, X1, r1, q⟩ := q
  refine (step R1 E1 q).imp fun y H2 q => ?_
  obtain ⟨e, st2, ρ2, R2, E2, X2, r2, q⟩ := q
  exact cmp_done hr R2 (r1.ext R1 X2) r2 q
theorem sT_cmp {a b : Expr} {ma mb : Env → Sto → R D} {pos : Pos} {op : COp} (hu : X.A.units + 64 < cLine) (ha : PE X a (tE T X.K W ma)) (hb : PE X b (tE T X.K W mb)) (hm : behindInMarks (copOf op) b = false) :
    PT X (.Compare a [copOf op] [b] pos) (tT T X.K W fun env st => truR ((ma env st).bind fun x st1 => (mb env st1).bind fun y st2 => (ofO (cmpV op x y st2) st2).bind fun k st3 => .ok (.bl k) st3)) := by
  obtain ⟨r, ho, hr⟩ := cmpR (T := T) (X := X) hu op
  refine PT.weak (pt_cmpR ho ha hb hm) fun σ H Q h => ?_
  obtain ⟨ρ, env, st, R0, E0, h⟩ := h
  refine (step R0 E0 (truR_ok h)).imp fun x H1 q => ?_
  obtain ⟨d, st1, ρ1, R1, E1, X1, r1, q⟩ := q
  refine (step R1 E1 q).imp fun y H2 q => ?_
  obtain ⟨e, st2, ρ2, R2, E2, X2, r2, q⟩ := q
  exact cmp_done hr R2 (r1.ext R1 X2) r2 q
def chnR (op op2 : COp) (ma mb mc : Env → Sto → R D) : Env → Sto → R D := fun env st => (ma env st).bind fun x st1 => (mb env st1).bind fun y st2 => (ofO (cmpV op x y st2) st2).bind fun k st3 => (match k with
    | true => (mc env st3).bind fun z st4 => (ofO (cmpV op2 y z st4) st4).bind fun k st5 => .ok (.bl k) st5
    | false => .ok (.bl false) st3)
theorem chn_read {op op2 : COp} {ma mb mc : Env → Sto → R D} {r r' : R2} (hr : ∀ ρ H st d e x y b Q, Rel T X.K ρ st H → RelD T X.K ρ H d x → RelD T X.K ρ H e y → cmpV op d e st = some b → Q (.bl b) H → r x y H Q)
    (hr' : ∀ ρ H st d e x y b Q, Rel T X.K ρ st H → RelD T X.K ρ H d x → RelD T X.K ρ H e y → cmpV op2 d e st = some b → Q (.bl b) H → r' x y H Q) {ρ : List Addr} {H : Hp} {σ : St} {env : Env} {st : Sto} {Q : VK}
    (R0 : Rel T X.K ρ st H) (E0 : RelE T X.K ρ H env σ) (h : Ans T X.K (RelD T X.K) W ρ H σ (chnR op op2 ma mb mc env st) Q) : tChain r r' (tE T X.K W ma) (tE T X.K W mb) (tE T X.K W mc) σ H Q := by
  refine (step R0 E0 h).imp fun x H1 q => ?_
  obtain ⟨d, st1, ρ1, R1, E1, X1, r1, q⟩ := q
  refine (step R1 E1 q).imp fun y H2 q => ?_
  obtain ⟨e, st2, ρ2, R2, E2, X2, r2, q⟩ := q
  cases hc : cmpV op d e st2 with
  | none => rw [hc] at q; exact q.elim
  | some k =>
    rw [hc] at q
    refine hr ρ2 H2 st2 d e x y k _ R2 (r1.ext R1 X2) r2 hc ⟨k, rfl, ?_⟩
    cases k with
    | false => exact Ans.done q R2 (.bl _)
    | true =>
      refine (step R2 E2 q).imp fun z H3 q => ?_
      obtain ⟨g, st3, ρ3, R3, E3, X3, r3, q⟩ := q
      exact cmp_done hr' R3 (r2.ext R2 X3) r3 q
theorem sE_chn {a b c : Expr} {ma mb mc : Env → Sto → R D} {pos : Pos} {op op2 : COp} (hu : X.A.units + 64 < cLine) (ha : PE X a (tE T X.K W ma)) (hb : PE X b (tE T X.K W mb)) (hc : PE X c (tE T X.K W mc))
    (hm : lastMarks [copOf op, copOf op2] [b, c] = false) : PE X (.Compare a [copOf op, copOf op2] [b, c] pos) (tE T X.K W (chnR op op2 ma mb mc)) := by
  obtain ⟨r, ho, hr⟩ := cmpR (T := T) (X := X) hu op
  obtain ⟨r', ho', hr'⟩ := cmpR (T := T) (X := X) hu op2
  refine PE.weak (pe_chain ho ho' ha hb hc hm) fun σ H Q h => ?_
  obtain ⟨ρ, env, st, R0, E0, h⟩ := h
  exact chn_read hr hr' R0 E0 h
theorem sT_chn {a b c : Expr} {ma mb mc : Env → Sto → R D} {pos : Pos} {op op2 : COp} (hu : X.A.units + 64 < cLine) (ha : PE X a (tE T X.K W ma)) (hb : PE X b (tE T X.K W mb)) (hc : PE X c (tE T X.K W mc))
    (hm : lastMarks [copOf op, copOf op2] [b, c] = false) : PT X (.Compare a [copOf op, copOf op2] [b, c] pos) (tT T X.K W fun env st => truR (chnR op op2 ma mb mc env st)) := by
  obtain ⟨r, ho, hr⟩ := cmpR (T := T) (X := X) hu op
  obtain ⟨r', ho', hr'⟩ := cmpR (T := T) (X := X) hu op2
  refine PT.weak (pt_chain ho ho' ha hb hc hm) fun σ H Q h => ?_
  obtain ⟨ρ, env, st, R0, E0, h⟩ := h
  exact chn_read hr hr' R0 E0 (truR_ok h)
/-! ### and, or, not, if -/
theorem sE_not {a : Expr} {ma : Env → Sto → R D} {pos : Pos} (ha : PE X a (tE T X.K W ma)) : PE X (.UnaryOp .Not a pos) (tE T X.K W fun env st => (truR (ma env st)).bind fun b st1 => .ok (.bl (!b)) st1) := by
  refine PE.weak (pe_not ha) fun σ H Q h => ?_
  obtain ⟨ρ, env, st, R0, E0, h⟩ := h
  refine (show tX T X.K (RelD T X.K) W ma σ H _ from ⟨ρ, env, st, R0, E0, truR_ok (Ans.bind (RV := RB) h)⟩).imp fun x H1 q => ?_
  obtain ⟨b, rfl, b2, st1, ρ1, e, X1, R1, rfl, q⟩ := q
  exact ⟨_, rfl, q.done R1 (.bl _)⟩
theorem tru_step {γ δ : Type} {RW : List Addr → Hp → γ → δ → Prop} {ρ : List Addr} {H : Hp} {σ : St} {env : Env} {st : Sto} {m : Env → Sto → R D} {k : Bool → Sto → R γ} {Q : δ → Hp → Prop} (R0 : Rel T X.K ρ st H) (E0 : RelE T X.K ρ H env σ)
    (h : Ans T X.K RW W ρ H σ ((truR (m env st)).bind k) Q) :
    tX T X.K (RelD T X.K) W m σ H (fun v H' => ∃ b st' ρ', v = .bl b ∧ Rel T X.K ρ' st' H' ∧ RelE T X.K ρ' H' env σ ∧ Ext ρ H ρ' H' ∧ Ans T X.K RW W ρ' H' σ (k b st') Q) := by
  refine (show tX T X.K (RelD T X.K) W m σ H _ from ⟨ρ, env, st, R0, E0, truR_ok (Ans.bind (RV := RB) h)⟩).imp fun x H1 q => ?_
  obtain ⟨b, rfl, b2, st1, ρ1, e, X1, R1, rfl, q⟩ := q
  exact ⟨_, st1, ρ1, rfl, R1, E0.ext R0 X1, X1, q⟩
theorem sE_and {a b : Expr} {rest : List Expr} {ma mb : Env → Sto → R D} {pos : Pos} (ha : PE X a (tE T X.K W ma)) (hb : PE X (.BoolOp .And (b :: rest) pos) (tE T X.K W mb)) :
    PE X (.BoolOp .And (a :: b :: rest) pos) (tE T X.K W fun env st => (truR (ma env st)).bind fun k st1 => (match k with
    | true => mb env st1
    | false => .ok (.bl false) st1)) := by
  refine PE.weak (pe_and ha hb) fun σ H Q h => ?_
  obtain ⟨ρ, env, st, R0, E0, h⟩ := h
  refine (tru_step R0 E0 h).imp fun x H1 q => ?_
  obtain ⟨b, st1, ρ1, rfl, R1, E1, X1, q⟩ := q
  refine ⟨b, rfl, ?_⟩
  cases b with
  | true => exact ⟨ρ1, env, st1, R1, E1, q⟩
  | false => exact q.done R1 (.bl _)
theorem sE_or {a b : Expr} {rest : List Expr} {ma mb : Env → Sto → R D} {pos : Pos} (ha : PE X a (tE T X.K W ma)) (hb : PE X (.BoolOp .Or (b :: rest) pos) (tE T X.K W mb)) :
    PE X (.BoolOp .Or (a :: b :: rest) pos) (tE T X.K W fun env st => (truR (ma env st)).bind fun k st1 => (match k with
    | true => .ok (.bl true) st1
    | false => mb env st1)) := by
  refine PE.weak (pe_or ha hb) fun σ H Q h => ?_
  obtain ⟨ρ, env, st, R0, E0, h⟩ := h
  refine (tru_step R0 E0 h).imp fun x H1 q => ?_
  obtain ⟨b, st1, ρ1, rfl, R1, E1, X1, q⟩ := q
  refine ⟨b, rfl, ?_⟩
  cases b with
  | false => exact ⟨ρ1, env, st1, R1, E1, q⟩
  | true => exact q.done R1 (.bl _)
theorem sT_and {a b : Expr} {rest : List Expr} {ma mb : Env → Sto → R Bool} {pos : Pos} (ha : PT X a (tT T X.K W ma)) (hb : PW X (.BoolOp .And (b :: rest) pos) (tT T X.K W mb)) :
    PW X (.BoolOp .And (a :: b :: rest) pos) (tT T X.K W fun env st => (ma env st).bind fun k st1 => (match k with
    | true => mb env st1
    | false => .ok false st1)) := by
  refine ⟨fun wh pins s σ H Q I h => (pw_and ha hb).run wh pins s σ H Q I ?_⟩
  obtain ⟨ρ, env, st, R0, E0, h⟩ := h
  refine (step R0 E0 h).imp fun x H1 q => ?_
  obtain ⟨b, st1, ρ1, R1, E1, X1, rfl, q⟩ := q
  cases b with
  | true => exact ⟨ρ1, env, st1, R1, E1, q⟩
  | false => exact q.done R1 rfl
theorem sT_or {a b : Expr} {rest : List Expr} {ma mb : Env → Sto → R Bool} {pos : Pos} (ha : PT X a (tT T X.K W ma)) (hb : PW X (.BoolOp .Or (b :: rest) pos) (tT T X.K W mb)) :
    PW X (.BoolOp .Or (a :: b :: rest) pos) (tT T X.K W fun env st => (ma env st).bind fun k st1 => (match k with
    | true => .ok true st1
    | false => mb env st1)) := by
  refine ⟨fun wh pins s σ H Q I h => (pw_or ha hb).run wh pins s σ H Q I ?_⟩
  obtain ⟨ρ, env, st, R0, E0, h⟩ := h
  refine (step R0 E0 h).imp fun x H1 q => ?_
  obtain ⟨b, st1, ρ1, R1, E1, X1, rfl, q⟩ := q
  cases b with
  | false => exact ⟨ρ1, env, st1, R1, E1, q⟩
  | true => exact q.done R1 rfl
theorem sE_ite {c a b : Expr} {mc : Env → Sto → R Bool} {ma mb : Env → Sto → R D} {pos : Pos} (hc : PT X c (tT T X.K W mc)) (ha : PE X a (tE T X.K W ma)) (hb : PE X b (tE T X.K W mb)) :
    PE X (.IfExp c a b pos) (tE T X.K W fun env st => (mc env st).bind fun k st1 => (match k with
    | true => ma env st1
    | false => mb env st1)) := by
  refine PE.weak (pe_ifExp hc ha hb) fun σ H Q h => ?_
  obtain ⟨ρ, env, st, R0, E0, h⟩ := h
  refine (step R0 E0 h).imp fun x H1 q => ?_
  obtain ⟨b, st1, ρ1, R1, E1, X1, rfl, q⟩ := q
  cases b with
  | false => exact ⟨ρ1, env, st1, R1, E1, q⟩
  | true => exact ⟨ρ1, env, st1, R1, E1, q⟩
theorem sE_neg {a : Expr} {ma : Env → Sto → R D} {pos : Pos} (ha : PE X a (tE T X.K W ma)) : PE X (.UnaryOp .USub a pos) (tE T X.K W fun env st => (ma env st).bind fun x st1 => (match x with
    | .int i => .ok (.int (-i)) st1
    | _ => .bad)) := by
  refine PE.weak (pe_un un_neg ha) fun σ H Q h => ?_
  obtain ⟨ρ, env, st, R0, E0, h⟩ := h
  refine (step R0 E0 h).imp fun x H1 q => ?_
  obtain ⟨d, st1, ρ1, R1, E1, X1, r1, q⟩ := q
  cases r1 with
  | int i => exact ⟨i, rfl, Ans.done q R1 (.int _)⟩
  | _ => exact q.elim
theorem RelD.isNon {ρ : List Addr} {H : Hp} {d : D} {v : V} {K : PySem.W.Frag} (h : RelD T K ρ H d v) : decide (v = .non) = isNonD d := by cases h <;> simp [isNonD]
theorem sE_isN {a : Expr} {ma : Env → Sto → R D} {pos p2 : Pos} {j : Nat} (ha : PE X a (tE T X.K W ma)) : PE X (.Compare a [.Is] [.Constant .none j p2] pos) (tE T X.K W fun env st => (ma env st).bind fun x st1 => .ok (.bl (isNonD x)) st1) := by
  refine PE.weak (pe_cmp (pc_isN ha) rfl) fun σ H Q h => ?_
  obtain ⟨ρ, env, st, R0, E0, h⟩ := h
  refine (step R0 E0 h).imp fun x H1 q => ?_
  obtain ⟨d, st1, ρ1, R1, E1, X1, r1, q⟩ := q
  exact Ans.done q R1 (by rw [r1.isNon]; exact .bl _)
theorem sE_isnN {a : Expr} {ma : Env → Sto → R D} {pos p2 : Pos} {j : Nat} (ha : PE X a (tE T X.K W ma)) : PE X (.Compare a [.IsNot] [.Constant .none j p2] pos) (tE T X.K W fun env st => (ma env st).bind fun x st1 => .ok (.bl (!isNonD x)) st1) := by
  refine PE.weak (pe_cmp (pc_notN ha) rfl) fun σ H Q h => ?_
  obtain ⟨ρ, env, st, R0, E0, h⟩ := h
  refine (step R0 E0 h).imp fun x H1 q => ?_
  obtain ⟨d, st1, ρ1, R1, E1, X1, r1, q⟩ := q
  exact Ans.done q R1 (by rw [r1.isNon]; exact .bl _)
theorem sT_isN {a : Expr} {ma : Env → Sto → R D} {pos p2 : Pos} {j : Nat} (ha : PE X a (tE T X.K W ma)) : PT X (.Compare a [.Is] [.Constant .none j p2] pos) (tT T X.K W fun env st => truR ((ma env st).bind fun x st1 => .ok (.bl (isNonD x)) st1)) := by
  refine PT.weak (pt_cmp (pc_isN ha) rfl) fun σ H Q h => ?_
  obtain ⟨ρ, env, st, R0, E0, h⟩ := h
  refine (step R0 E0 (truR_ok h)).imp fun x H1 q => ?_
  obtain ⟨d, st1, ρ1, R1, E1, X1, r1, q⟩ := q
  exact Ans.done q R1 (by rw [r1.isNon]; exact .bl _)
theorem sT_isnN {a : Expr} {ma : Env → Sto → R D} {pos p2 : Pos} {j : Nat} (ha : PE X a (tE T X.K W ma)) : PT X (.Compare a [.IsNot] [.Constant .none j p2] pos) (tT T X.K W fun env st => truR ((ma env st).bind fun x st1 => .ok (.bl (!isNonD x)) st1)) := by
  refine PT.weak (pt_cmp (pc_notN ha) rfl) fun σ H Q h => ?_
  obtain ⟨ρ, env, st, R0, E0, h⟩ := h
  refine (step R0 E0 (truR_ok h)).imp fun x H1 q => ?_
  obtain ⟨d, st1, ρ1, R1, E1, X1, r1, q⟩ := q
  exact Ans.done q R1 (by rw [r1.isNon]; exact .bl _)
end
end Hr

/-! Expressions: subscripts, displays, built-in functions and methods. -/
namespace Hr
open PySem PySem.Spec PyProof.Rows L2
section
variable {T : Tb} {X : Cx} {W : WX} {G : Pg} {C : Calls} {σ : St} {H : Hp} {ρ : List Addr} {st : Sto} {d e : D} {x y : V} {Q : VK}
theorem atI_eq {α : Type} (xs : List α) (i : Int) : atI xs i = L2.atI xs i := rfl
theorem sIx_eq (n d : Nat) (o : Option Int) : sIx n d o = HT.sIx n d o := rfl
theorem RelDs.atI {xs : List D} {vs : List V} (h : RelDs T X.K ρ H xs vs) {i : Int} {d : D} (e : atI xs i = some d) : ∃ v, L2.atI vs i = some v ∧ RelD T X.K ρ H d v := by
  unfold Hr.atI at e
  unfold L2.atI
  rw [← h.length]
  show ∃ v, ((Hr.ixN xs.length i).bind fun j => vs[j]?) = some v ∧ _
  cases q : ixN xs.length i with
  | none => rw [q] at e; cases e
  | some j => rw [q] at e; exact h.get e
theorem idx_val (R0 : Rel T X.K ρ st H) (hd : RelD T X.K ρ H d x) (he : RelD T X.K ρ H e y) (h : Ans T X.K (RelD T X.K) W ρ H σ (ofO (idxV d e st) st) Q) : rIx X.K x y H Q := by
  obtain ⟨z, hz, h'⟩ := ofO_ok h
  cases hd with
  | @tup a xs vs sq rs =>
    cases he with
    | int k =>
      simp only [idxV] at hz
      obtain ⟨v, hv, r⟩ := rs.atI hz
      exact .inr (.inl ⟨a, vs, k, v, rfl, rfl, sq, hv, h'.done R0 r⟩)
    | _ => simp [idxV] at hz
  | @fl a xs vs sq rs =>
    cases he with
    | int k =>
      simp only [idxV] at hz
      obtain ⟨v, hv, r⟩ := rs.atI hz
      exact .inl ⟨a, vs, k, v, rfl, rfl, sq.sq, hv, h'.done R0 r⟩
    | _ => simp [idxV] at hz
  | str s =>
    cases he with
    | int k =>
      simp only [idxV] at hz
      split at hz
      · next hl =>
        simp only [Option.map_eq_some_iff] at hz
        obtain ⟨c, hc, rfl⟩ := hz
        exact .inr (.inr ⟨s, k, c, rfl, rfl, hl, hc, h'.done R0 (.str _)⟩)
      · cases hz
    | _ => simp [idxV] at hz
  | @ref n p hp =>
    cases e1 : st.get n with
    | none => simp [idxV, e1] at hz
    | some o =>
      cases o with
      | lst xs =>
        cases he with
        | int k =>
          simp only [idxV, e1] at hz
          obtain ⟨vs, g, rs⟩ := R0.lst hp e1
          obtain ⟨v, hv, r⟩ := rs.atI hz
          exact .inl ⟨p, vs, k, v, rfl, rfl, SqL.of g, hv, h'.done R0 r⟩
        | _ => simp [idxV, e1] at hz
      | _ => cases he <;> simp [idxV, e1] at hz
  | _ => cases he <;> simp [idxV] at hz
theorem sE_idx {a b : Expr} {ma mb : Env → Sto → R D} {pos : Pos} (ha : PE X a (tE T X.K W ma)) (hb : PE X b (tE T X.K W mb)) (hs : PlainIx b) : PE X (.Subscript a b pos) (tE T X.K W fun env st => (ma env st).bind fun x st1 => (mb env st1).bind fun y st2 => ofO (idxV x y st2) st2) := by
  refine PE.weak (pe_ix ix_seq ha hb hs) fun σ H Q h => ?_
  obtain ⟨ρ, env, st, R0, E0, h⟩ := h
  refine (step R0 E0 h).imp fun x H1 q => ?_
  obtain ⟨d, st1, ρ1, R1, E1, X1, r1, q⟩ := q
  refine (step R1 E1 q).imp fun y H2 q => ?_
  obtain ⟨e, st2, ρ2, R2, E2, X2, r2, q⟩ := q
  exact idx_val R2 (r1.ext R1 X2) r2 q
/-! ### arguments, displays -/
theorem sA_nil : PA X [] (tA T X.K W fun _ st => .ok [] st) := by
  refine PA.weak pa_nil fun σ H Q h => ?_
  obtain ⟨ρ, env, st, R0, E0, h⟩ := h
  exact h.done R0 .nil
theorem sA_cons {e : Expr} {es : List Expr} {m : Env → Sto → R D} {ms : Env → Sto → R (List D)} (he : PE X e (tE T X.K W m)) (hes : PA X es (tA T X.K W ms)) (hs : starEach (e :: es) X.env = (false, eval e X.env) :: starEach es X.env) :
    PA X (e :: es) (tA T X.K W fun env st => (m env st).bind fun x st1 => (ms env st1).bind fun xs st2 => .ok (x :: xs) st2) := by
  refine PA.weak (pa_cons he hes hs) fun σ H Q h => ?_
  obtain ⟨ρ, env, st, R0, E0, h⟩ := h
  refine (step R0 E0 h).imp fun x H1 q => ?_
  obtain ⟨d, st1, ρ1, R1, E1, X1, r1, q⟩ := q
  refine (step R1 E1 q).imp fun y H2 q => ?_
  obtain ⟨e, st2, ρ2, R2, E2, X2, r2, q⟩ := q
  exact q.done R2 (.cons (r1.ext R1 X2) r2)
theorem sE_tup {es : List Expr} {ms : Env → Sto → R (List D)} {pos : Pos} {k : Nat} (h : PA X es (tA T X.K W ms)) : PE X (.Tuple es k pos) (tE T X.K W fun env st => (ms env st).bind fun vs st1 => grd (decide (vs.length ≤ sizeLine)) (.ok (.tup vs) st1)) := by
  refine PE.weak (pe_tup h) fun σ H Q h => ?_
  obtain ⟨ρ, env, st, R0, E0, h⟩ := h
  refine (step R0 E0 h).imp fun x H1 q => ?_
  obtain ⟨d, st1, ρ1, R1, E1, X1, r1, q⟩ := q
  obtain ⟨h1, q⟩ := grd_ok q
  exact ⟨by rw [← r1.length]; exact of_decide_eq_true h1, fun p hp => q.tup R1 hp r1⟩
theorem sE_lst {es : List Expr} {ms : Env → Sto → R (List D)} {pos : Pos} (h : PA X es (tA T X.K W ms)) : PE X (.List es pos) (tE T X.K W fun env st => (ms env st).bind fun vs st1 => grd (decide (vs.length ≤ sizeLine)) (.ok (.ref st1.len) (st1.new (.lst vs)))) := by
  refine PE.weak (pe_lst h) fun σ H Q h => ?_
  obtain ⟨ρ, env, st, R0, E0, h⟩ := h
  refine (step R0 E0 h).imp fun x H1 q => ?_
  obtain ⟨d, st1, ρ1, R1, E1, X1, r1, q⟩ := q
  obtain ⟨h1, q⟩ := grd_ok q
  exact ⟨by rw [← r1.length]; exact of_decide_eq_true h1, fun p hp => q.made R1 hp (.lst r1)⟩
/-! ### slices -/
abbrev RO : List Addr → Hp → Option Int → Option Int → Prop := fun _ _ a b => a = b
theorem sO_none : PO X none (tX T X.K RO W fun _ st => .ok none st) := by
  refine ⟨fun pins s σ H Q I h => po_none.run pins s σ H Q I ?_⟩
  obtain ⟨ρ, env, st, R0, E0, h⟩ := h
  exact h.done R0 rfl
theorem sO_some {e : Expr} {m : Env → Sto → R D} (he : PE X e (tE T X.K W m)) : PO X (some e) (tX T X.K RO W fun env st => intO ((m env st).bind fun x st1 => (R.ok (α := List D) [] st1).bind fun xs st2 => .ok (x :: xs) st2)) := by
  refine ⟨fun pins s σ H Q I h => (po_some he).run pins s σ H Q I ?_⟩
  obtain ⟨ρ, env, st, R0, E0, h⟩ := h
  have h : Ans T X.K RO W ρ H σ ((m env st).bind fun d st1 => match d with
    | .int i => .ok (some i) st1
    | _ => .bad) Q := by
    dsimp only at h
    cases q : m env st with
    | bad => rw [q] at h; exact h
    | exc c vs st1 => rw [q] at h; exact h
    | ok d st1 => rw [q] at h; cases d <;> exact h
  refine (step R0 E0 h).imp fun x H1 q => ?_
  obtain ⟨d, st1, ρ1, R1, E1, X1, r1, q⟩ := q
  cases r1 with
  | int i => exact ⟨i, rfl, Ans.done q R1 rfl⟩
  | _ => exact q.elim
theorem cut_eq (xs : List V) (lo hi : Option Int) : cutV xs lo hi = cut xs lo hi := rfl
theorem RelDs.cut {xs : List D} {vs : List V} (h : RelDs T X.K ρ H xs vs) (lo hi : Option Int) : RelDs T X.K ρ H (cut xs lo hi) (cutV vs lo hi) := by
  unfold Hr.cut cutV
  rw [← h.length]
  exact (h.drop _).take _
theorem cut_whole {α : Type} (xs : List α) (lo hi : Option Int) (h : sIx xs.length 0 lo = 0 ∧ sIx xs.length xs.length hi = xs.length) : cut xs lo hi = xs := by
  unfold Hr.cut
  rw [h.1, h.2]; simp
theorem sl_all : SlR X (fun x lo hi H Q => rSlA X.K x lo hi H Q ∨ rSlL X.K x lo hi H Q ∨ rSlS x lo hi H Q) := SlR.or sl_tupA (SlR.or sl_list sl_str)
theorem sE_sli {a : Expr} {lo hi : Option Expr} {ma : Env → Sto → R D} {ml mh : Env → Sto → R (Option Int)} {pos p2 : Pos} (ha : PE X a (tE T X.K W ma)) (hl : PO X lo (tX T X.K RO W ml)) (hh : PO X hi (tX T X.K RO W mh)) :
    PE X (.Subscript a (.Slice lo hi none p2) pos) (tE T X.K W fun env st => (ma env st).bind fun x st1 => (ml env st1).bind fun l st2 => (mh env st2).bind fun h st3 => sliV x l h st3) := by
  refine PE.weak (pe_slice sl_all ha hl hh) fun σ H Q h => ?_
  obtain ⟨ρ, env, st, R0, E0, h⟩ := h
  refine (step R0 E0 h).imp fun x H1 q => ?_
  obtain ⟨d, st1, ρ1, R1, E1, X1, r1, q⟩ := q
  refine (step R1 E1 q).imp fun l H2 q => ?_
  obtain ⟨l', st2, ρ2, R2, E2, X2, rfl, q⟩ := q
  refine (step R2 E2 q).imp fun u H3 q => ?_
  obtain ⟨u', st3, ρ3, R3, E3, X3, rfl, q⟩ := q
  have r := (r1.ext R1 X2).ext R2 X3
  cases r with
  | @tup b xs vs sq rs =>
    simp only [sliV] at q
    refine .inl ⟨b, vs, rfl, sq, fun hw => ?_, fun hw p hp => q.tup R3 hp (rs.cut _ _)⟩
    have := cut_whole xs l' u' (by rw [rs.length]; exact hw)
    rw [this] at q
    exact q.done R3 (.tup sq rs)
  | str z =>
    simp only [sliV] at q
    obtain ⟨h1, q⟩ := grd_ok q
    refine .inr (.inr ⟨z, rfl, of_decide_eq_true h1, ?_⟩)
    refine q.done R3 ?_
    have e : (⟨(cut z.cps.toList l' u').toArray⟩ : Str) = cutS z l' u' := by
      unfold cut cutS
      have : z.cps.toList.length = z.length := by simp [Str.length]
      rw [this]; rfl
    rw [e]; exact .str _
  | @ref n p hp =>
    cases e1 : st3.get n with
    | none => simp only [sliV, e1] at q; exact q.elim
    | some o =>
      cases o with
      | lst xs =>
        simp only [sliV, e1] at q
        obtain ⟨vs, g, rs⟩ := R3.lst hp e1
        exact .inr (.inl ⟨p, vs, rfl, SqL.of g, fun c hc => q.made R3 hc (.lst (rs.cut _ _))⟩)
      | _ => simp only [sliV, e1] at q; exact q.elim
  | _ => exact q.elim
/-! ### built-in functions -/
/-- a rule of a built-in function and what it reads -/
def BiOk (T : Tb) (X : Cx) (W : WX) (f : Value) (b : Bi) : Prop := ∃ r : List V → Hp → VK → Prop, CallR X f r ∧ ∀ ρ H st σ ds vs Q, Rel T X.K ρ st H → RelDs T X.K ρ H ds vs → Ans T X.K (RelD T X.K) W ρ H σ (biV b ds st) Q → r vs H Q
theorem sE_biB {x : Str} {id : String} {b : Bi} {p pos : Pos} {e : Expr} {es : List Expr} {ms : Env → Sto → R (List D)} (hb : BiOk T X W (.builtin id) b) (hg : L2.Gl X x) (hm : X.mg x = none) (hv : bootBuiltins x = some (.builtin id)) (ha : PA X (e :: es) (tA T X.K W ms))
    (hn : x ≠ "__name__") (hdb : (x == ("__debug__" : Str)) = false) (he : starEach (e :: es) X.env = (false, eval e X.env) :: starEach es X.env) (hpl : (backTo pos (starEach es X.env)).any (·.1) = false) :
    PE X (.Call (.Name x p) (e :: es) [] pos) (tE T X.K W fun env st => (ms env st).bind fun vs st1 => biV b vs st1) := by
  obtain ⟨r, hc, hr⟩ := hb
  refine PE.weak (pe_callB hc hg hm hv ha hn hdb he hpl) fun σ H Q h => ?_
  obtain ⟨ρ, env, st, R0, E0, h⟩ := h
  refine (step R0 E0 h).imp fun x H1 q => ?_
  obtain ⟨d, st1, ρ1, R1, E1, X1, r1, q⟩ := q
  exact hr ρ1 H1 st1 σ d x Q R1 r1 q
theorem sE_biTy {x : Str} {id : String} {b : Bi} {p pos : Pos} {e : Expr} {es : List Expr} {ms : Env → Sto → R (List D)} (hb : BiOk T X W (.type id) b) (hg : L2.Gl X x) (hm : X.mg x = none) (hv : bootBuiltins x = some (.type id)) (ha : PA X (e :: es) (tA T X.K W ms))
    (hn : x ≠ "__name__") (hdb : (x == ("__debug__" : Str)) = false) (he : starEach (e :: es) X.env = (false, eval e X.env) :: starEach es X.env) (hpl : (backTo pos (starEach es X.env)).any (·.1) = false) :
    PE X (.Call (.Name x p) (e :: es) [] pos) (tE T X.K W fun env st => (ms env st).bind fun vs st1 => biV b vs st1) := by
  obtain ⟨r, hc, hr⟩ := hb
  refine PE.weak (pe_callTy hc hg hm hv ha hn hdb he hpl) fun σ H Q h => ?_
  obtain ⟨ρ, env, st, R0, E0, h⟩ := h
  refine (step R0 E0 h).imp fun x H1 q => ?_
  obtain ⟨d, st1, ρ1, R1, E1, X1, r1, q⟩ := q
  exact hr ρ1 H1 st1 σ d x Q R1 r1 q
theorem RelDs.one {vs : List V} {d : D} (h : RelDs T X.K ρ H [d] vs) : ∃ v, vs = [v] ∧ RelD T X.K ρ H d v := by
  cases h with | cons a b => cases b; exact ⟨_, rfl, a⟩
/-- the shapes that biV takes -/
theorem biV_cases {b : Bi} {ds : List D} {vs : List V} (h : RelDs T X.K ρ H ds vs) (a : Ans T X.K (RelD T X.K) W ρ H σ (biV b ds st) Q) :
    (∃ d v, vs = [v] ∧ RelD T X.K ρ H d v ∧ Ans T X.K (RelD T X.K) W ρ H σ (biO b d st) Q) ∨
    (∃ i j : Int, vs = [.int i, .int j] ∧ ((b = .max ∧ Q (.int (if j > i then j else i)) H) ∨ (b = .min ∧ Q (.int (if j < i then j else i)) H))) ∨ ¬ (Rel T X.K ρ st H) := by
  by_cases R0 : Rel T X.K ρ st H
  · cases h with
    | nil => exact a.elim
    | cons r1 t =>
      cases t with
      | nil => exact .inl ⟨_, _, rfl, r1, a⟩
      | cons r2 t =>
        cases t with
        | nil =>
          cases r1 with
          | int i =>
            cases r2 with
            | int j =>
              cases b <;> first | exact a.elim | exact .inr (.inl ⟨i, j, rfl, .inl ⟨rfl, Ans.done a R0 (.int _)⟩⟩) | exact .inr (.inl ⟨i, j, rfl, .inr ⟨rfl, Ans.done a R0 (.int _)⟩⟩)
            | _ => exact a.elim
          | _ => cases r2 <;> exact a.elim
        | cons r3 t => cases r1 <;> cases r2 <;> exact a.elim
  · exact .inr (.inr R0)
theorem bi_one {f : Value} {b : Bi} {r : List V → Hp → VK → Prop} (hc : CallR X f r) (h1 : b ≠ .max) (h2 : b ≠ .min) (hr : ∀ ρ H st σ d v Q, Rel T X.K ρ st H → RelD T X.K ρ H d v → Ans T X.K (RelD T X.K) W ρ H σ (biO b d st) Q → r [v] H Q) : BiOk T X W f b := by
  refine ⟨r, hc, fun ρ H st σ ds vs Q R0 rs a => ?_⟩
  rcases biV_cases rs a with ⟨d, v, rfl, rd, a⟩ | ⟨i, j, _, ⟨e, _⟩ | ⟨e, _⟩⟩ | n
  · exact hr ρ H st σ d v Q R0 rd a
  · exact absurd e h1
  · exact absurd e h2
  · exact absurd R0 n
theorem bi_len : BiOk T X W (.builtin "len") .len := by
  refine bi_one call_len (by simp) (by simp) fun ρ H st σ d v Q R0 rd a => ?_
  cases rd with
  | str z =>
    obtain ⟨h1, a⟩ := grd_ok a
    exact ⟨_, z.length, rfl, ⟨of_decide_eq_true h1, rfl⟩, a.done R0 (.int _)⟩
  | @tup b xs vs sq rs => exact ⟨_, vs.length, rfl, .inr ⟨vs, sq, rfl⟩, Ans.done a R0 (by rw [← rs.length]; exact .int _)⟩
  | @fl b xs vs sq rs => exact ⟨_, vs.length, rfl, .inl ⟨vs, sq.sq, rfl⟩, Ans.done a R0 (by rw [← rs.length]; exact .int _)⟩
  | @ref n p hp =>
    cases e1 : st.get n with
    | none => simp only [biO, e1] at a; exact a.elim
    | some o =>
      cases o with
      | lst xs =>
        simp only [biO, e1, biL] at a
        obtain ⟨vs, g, rs⟩ := R0.lst hp e1
        exact ⟨_, vs.length, rfl, .inl ⟨vs, SqL.of g, rfl⟩, Ans.done a R0 (by rw [← rs.length]; exact .int _)⟩
      | _ => simp only [biO, e1] at a; exact a.elim
  | _ => exact a.elim
theorem bi_int : BiOk T X W (.type "int") .int := by
  refine bi_one call_int1 (by simp) (by simp) fun ρ H st σ d v Q R0 rd a => ?_
  cases rd with
  | int i => exact .inl ⟨i, rfl, Ans.done a R0 (.int _)⟩
  | bl k => exact .inr ⟨k, rfl, Ans.done a R0 (.int _)⟩
  | @ref n p hp =>
    cases e1 : st.get n with
    | none => simp only [biO, e1] at a; exact a.elim
    | some o => cases o <;> (simp only [biO, e1] at a; exact a.elim)
  | _ => exact a.elim
theorem bi_tuple : BiOk T X W (.type "tuple") .tuple := by
  refine bi_one call_tuple_of (by simp) (by simp) fun ρ H st σ d v Q R0 rd a => ?_
  cases rd with
  | @tup b xs vs sq rs => exact ⟨b, vs, rfl, .inr ⟨sq, Ans.done a R0 (.tup sq rs)⟩⟩
  | @ref n p hp =>
    cases e1 : st.get n with
    | none => simp only [biO, e1] at a; exact a.elim
    | some o =>
      cases o with
      | lst xs =>
        simp only [biO, e1, biL] at a
        obtain ⟨vs, g, rs⟩ := R0.lst hp e1
        exact ⟨p, vs, rfl, .inl ⟨SqL.of g, fun l hl => a.tup R0 hl rs⟩⟩
      | _ => simp only [biO, e1] at a; exact a.elim
  | _ => exact a.elim
theorem bi_list : BiOk T X W (.type "list") .list := by
  refine bi_one call_list_of (by simp) (by simp) fun ρ H st σ d v Q R0 rd a => ?_
  cases rd with
  | @tup b xs vs sq rs => exact ⟨b, vs, rfl, .inr sq, fun l hl => Ans.made a R0 hl (.lst rs)⟩
  | @ref n p hp =>
    cases e1 : st.get n with
    | none => simp only [biO, e1] at a; exact a.elim
    | some o =>
      cases o with
      | lst xs =>
        simp only [biO, e1, biL] at a
        obtain ⟨vs, g, rs⟩ := R0.lst hp e1
        exact ⟨p, vs, rfl, .inl (SqL.of g), fun l hl => a.made R0 hl (.lst rs)⟩
      | _ => simp only [biO, e1] at a; exact a.elim
  | _ => exact a.elim
theorem RelDs.ints : ∀ {xs : List D} {vs : List V} {ns : List Int}, RelDs T X.K ρ H xs vs → asInts xs = some ns → vs = ns.map V.int
  | [], _, _, .nil, h => by simp only [asInts, Option.some.injEq] at h; subst h; rfl
  | x :: xs, _, ns, .cons a b, h => by
    cases a with
    | int i =>
      simp only [asInts, Option.map_eq_some_iff] at h
      obtain ⟨ms, h, rfl⟩ := h
      rw [RelDs.ints b h]; rfl
    | _ => simp [asInts] at h
theorem RelDs.bls : ∀ {xs : List D} {vs : List V} {ns : List Bool}, RelDs T X.K ρ H xs vs → asBls xs = some ns → vs = ns.map V.bl
  | [], _, _, .nil, h => by simp only [asBls, Option.some.injEq] at h; subst h; rfl
  | x :: xs, _, ns, .cons a b, h => by
    cases a with
    | bl i =>
      simp only [asBls, Option.map_eq_some_iff] at h
      obtain ⟨ms, h, rfl⟩ := h
      rw [RelDs.bls b h]; rfl
    | _ => simp [asBls] at h
/-- what biO gives for a list -/
theorem biO_list {b : Bi} {d : D} {v : V} (hb : b = .sum ∨ b = .any ∨ b = .all ∨ b = .max ∨ b = .min ∨ b = .sorted) (R0 : Rel T X.K ρ st H) (rd : RelD T X.K ρ H d v) (a : Ans T X.K (RelD T X.K) W ρ H σ (biO b d st) Q) :
    ∃ p xs vs, v = .ref p ∧ H p = some (.lst vs) ∧ RelDs T X.K ρ H xs vs ∧ Ans T X.K (RelD T X.K) W ρ H σ (biL b xs st) Q := by
  cases rd with
  | @ref n p hp =>
    cases e1 : st.get n with
    | none => simp only [biO, e1] at a; exact a.elim
    | some o =>
      cases o with
      | lst xs =>
        simp only [biO, e1] at a
        obtain ⟨vs, g, rs⟩ := R0.lst hp e1
        exact ⟨p, xs, vs, rfl, g, rs, a⟩
      | _ => simp only [biO, e1] at a; exact a.elim
  | _ => rcases hb with rfl | rfl | rfl | rfl | rfl | rfl <;> exact a.elim
theorem bi_sum (hc : X.calm = true) : BiOk T X W (.builtin "sum") .sum := by
  refine bi_one (cr_sum hc) (by simp) (by simp) fun ρ H st σ d v Q R0 rd a => ?_
  obtain ⟨p, xs, vs, rfl, g, rs, a⟩ := biO_list (.inl rfl) R0 rd a
  cases e : asInts xs with
  | none => simp only [biL, e] at a; exact a.elim
  | some ns =>
    simp only [biL, e] at a
    exact ⟨p, ns, rfl, by rw [← rs.ints e]; exact SqL.of g, a.done R0 (.int _)⟩
theorem bi_any (hc : X.calm = true) : BiOk T X W (.builtin "any") .any := by
  refine bi_one (cr_any hc) (by simp) (by simp) fun ρ H st σ d v Q R0 rd a => ?_
  obtain ⟨p, xs, vs, rfl, g, rs, a⟩ := biO_list (.inr (.inl rfl)) R0 rd a
  cases e : asBls xs with
  | none => simp only [biL, e] at a; exact a.elim
  | some ns =>
    simp only [biL, e] at a
    exact ⟨p, ns, rfl, by rw [← rs.bls e]; exact SqL.of g, a.done R0 (.bl _)⟩
theorem bi_all (hc : X.calm = true) : BiOk T X W (.builtin "all") .all := by
  refine bi_one (cr_all hc) (by simp) (by simp) fun ρ H st σ d v Q R0 rd a => ?_
  obtain ⟨p, xs, vs, rfl, g, rs, a⟩ := biO_list (.inr (.inr (.inl rfl))) R0 rd a
  cases e : asBls xs with
  | none => simp only [biL, e] at a; exact a.elim
  | some ns =>
    simp only [biL, e] at a
    exact ⟨p, ns, rfl, by rw [← rs.bls e]; exact SqL.of g, a.done R0 (.bl _)⟩
theorem maxI_mem : ∀ (r : List Int) (a : Int), maxI a r ∈ a :: r ∧ ∀ y ∈ a :: r, y ≤ maxI a r
  | [], a => by simp [maxI]
  | b :: r, a => by
    obtain ⟨h1, h2⟩ := maxI_mem r (if b > a then b else a)
    unfold maxI
    refine ⟨?_, fun y hy => ?_⟩
    · rcases List.mem_cons.mp h1 with e | m
      · rw [e]; split <;> simp
      · simp [m]
    · have h3 := h2 _ List.mem_cons_self
      generalize maxI (if b > a then b else a) r = z at *
      rcases List.mem_cons.mp hy with rfl | hy
      · split at h3 <;> omega
      · rcases List.mem_cons.mp hy with rfl | hy
        · split at h3 <;> omega
        · exact h2 y (List.mem_cons_of_mem _ hy)
theorem minI_mem : ∀ (r : List Int) (a : Int), minI a r ∈ a :: r ∧ ∀ y ∈ a :: r, minI a r ≤ y
  | [], a => by simp [minI]
  | b :: r, a => by
    obtain ⟨h1, h2⟩ := minI_mem r (if b < a then b else a)
    unfold minI
    refine ⟨?_, fun y hy => ?_⟩
    · rcases List.mem_cons.mp h1 with e | m
      · rw [e]; split <;> simp
      · simp [m]
    · have h3 := h2 _ List.mem_cons_self
      generalize minI (if b < a then b else a) r = z at *
      rcases List.mem_cons.mp hy with rfl | hy
      · split at h3 <;> omega
      · rcases List.mem_cons.mp hy with rfl | hy
        · split at h3 <;> omega
        · exact h2 y (List.mem_cons_of_mem _ hy)
theorem bi_max (hc : X.calm = true) : BiOk T X W (.builtin "max") .max := by
  refine ⟨_, CallR.or (call_max2 hc) (cr_max hc), fun ρ H st σ ds vs Q R0 rs a => ?_⟩
  rcases biV_cases rs a with ⟨d, v, rfl, rd, a⟩ | ⟨i, j, rfl, ⟨_, q⟩ | ⟨e, _⟩⟩ | n
  · obtain ⟨p, xs, vs, rfl, g, rs, a⟩ := biO_list (.inr (.inr (.inr (.inl rfl)))) R0 rd a
    cases e : asInts xs with
    | none => simp only [biL, e] at a; exact a.elim
    | some ns =>
      cases ns with
      | nil => simp only [biL, e] at a; exact a.elim
      | cons n ns =>
        simp only [biL, e] at a
        refine .inr ⟨p, n :: ns, rfl, by rw [← rs.ints e]; exact SqL.of g, by simp, fun m hm hle => ?_⟩
        obtain ⟨h1, h2⟩ := maxI_mem ns n
        have : m = maxI n ns := Int.le_antisymm (h2 m hm) (hle _ h1)
        rw [this]; exact a.done R0 (.int _)
  · exact .inl ⟨i, j, rfl, q⟩
  · cases e
  · exact absurd R0 n
theorem bi_min (hc : X.calm = true) : BiOk T X W (.builtin "min") .min := by
  refine ⟨_, CallR.or (call_min2 hc) (cr_min hc), fun ρ H st σ ds vs Q R0 rs a => ?_⟩
  rcases biV_cases rs a with ⟨d, v, rfl, rd, a⟩ | ⟨i, j, rfl, ⟨e, _⟩ | ⟨_, q⟩⟩ | n
  · obtain ⟨p, xs, vs, rfl, g, rs, a⟩ := biO_list (.inr (.inr (.inr (.inr (.inl rfl))))) R0 rd a
    cases e : asInts xs with
    | none => simp only [biL, e] at a; exact a.elim
    | some ns =>
      cases ns with
      | nil => simp only [biL, e] at a; exact a.elim
      | cons n ns =>
        simp only [biL, e] at a
        refine .inr ⟨p, n :: ns, rfl, by rw [← rs.ints e]; exact SqL.of g, by simp, fun m hm hle => ?_⟩
        obtain ⟨h1, h2⟩ := minI_mem ns n
        have : m = minI n ns := Int.le_antisymm (hle _ h1) (h2 m hm)
        rw [this]; exact a.done R0 (.int _)
  · cases e
  · exact .inl ⟨i, j, rfl, q⟩
  · exact absurd R0 n
end
end Hr

/-! What is walked. -/
namespace Hr
open PySem PySem.Spec PyProof.Rows L2
/-! ### enumerate of one tuple -/
open PySem.Sem PySem.Builtin in
theorem meets_enum1 {v : Value} {o : Obj} {H : Heap → Prop} (B : Begins v o H) :
    Meets (Builtin.«enumerate.__new__» ⟨[.type "enumerate", v], []⟩) (fun _ R s => H s.heap ∧
      R (.ok (.ret (.ref (s.heap.push o).objs.size))) { s with heap := (s.heap.push o).push { cls := .type "enumerate", data := .fields #[.none, .bool false, .ref s.heap.objs.size, rawInt 0, .none, .none] } }) :=
  .of_wp fun prog w A R s h => by
    obtain ⟨hp, g, d, tk, os⟩ := s; obtain ⟨h1, h⟩ := h
    have hsub := PySem.sub_enumerate
    have q1 : ∀ {A' : Around} {E : Value → Shared → Prop} {Q : Value → Shared → Prop}, Q (.ref hp.objs.size) ⟨hp.push o, g, d, tk, os⟩ → wpAny (model prog w) A' (pyIter v) Q E ⟨hp, g, d, tk, os⟩ :=
      fun q => B.iter prog w _ _ ⟨hp, g, d, tk, os⟩ _ h1 q
    wp_walk using q1
    refine wpAny_stack_any fun st => wpAny_pure ?_
    split
    · rename_i c _ _ _ _ _
      cases (c == Value.type "enumerate")
      · wp_walk using q1
        exact ⟨_, rfl, h⟩
      · wp_walk using q1
        exact ⟨_, rfl, h⟩
    · wp_walk using q1
      exact ⟨_, rfl, h⟩
section
variable {prog : Program} {w : World} {A : Around} {E : Value → Shared → Prop} {s : Shared}
theorem enum1_begins {v : Value} {o : Obj} {H : Heap → Prop} {Q : Value → Shared → Prop} (B : Begins v o H) (h1 : H s.heap)
    (h : ∀ h', IsEnum h' (s.heap.objs.size + 1) s.heap.objs.size 0 .none → h'.get? s.heap.objs.size = some o → h'.objs.size = s.heap.objs.size + 2 →
      (∀ b o, s.heap.get? b = some o → h'.get? b = some o) → Q (.ref (s.heap.objs.size + 1)) { s with heap := h' }) :
    wpAny (model prog w) A (call (.type "enumerate") [v]) Q E s := by
  refine callType_new F.called_enumerate (by decide) (F.typeCall_enumerate_1 _) (F.newCall_enumerate_1 _) (fun obj => F.args_object_init_2 obj _) F.entry_enumerate_new
    (meets_enum1 B) ⟨h1, ?_⟩
  have hz : (s.heap.push o).objs.size = s.heap.objs.size + 1 := Heap.size_push ..
  show _ ∧ _
  rw [hz]
  have he : IsEnum ((s.heap.push o).push { cls := .type "enumerate", data := .fields #[.none, .bool false, .ref s.heap.objs.size, rawInt 0, .none, .none] }) (s.heap.objs.size + 1) s.heap.objs.size 0 .none := by
    have := Heap.get?_push_size (s.heap.push o) (o := { cls := .type "enumerate", data := .fields #[.none, .bool false, .ref s.heap.objs.size, rawInt 0, .none, .none] }) rfl
    rw [hz] at this; exact this
  refine ⟨⟨_, he, rfl⟩, h _ he (Heap.get?_push_of_some _ (Heap.get?_push_size _ B.free)) (by rw [Heap.size_push, hz]) fun b o x => Heap.get?_push_of_some _ (Heap.get?_push_of_some _ x)⟩
end

/-- the tuple at a, each item in a new pair -/
def IteT (K : PySem.W.Frag) (a : Addr) : It :=
  ⟨fun i H => ∃ (xs : List V) (x : V), SqT K H a xs ∧ xs[i]? = some x, fun i H v H' => ∃ T x, v = .ref T ∧ H T = none ∧ H' = upd H T (.tup [.int (i : Nat), x]) ∧ ∀ xs, SqT K H a xs → xs[i]? = some x, fun i H => ∃ xs : List V, SqT K H a xs ∧ xs.length ≤ i⟩
theorem turn_enumT {P : Program} {w : World} {K : PySem.W.Frag} {elts : List Expr} {kk : Nat} {tpos : Pos} (a e it : Addr) :
    Turn P w K (.Tuple elts kk tpos) (IteT K a) [e, it] e (fun i h => (∃ old, IsEnum h e it ((i : Nat) : Int) old) ∧ h.IsTupleIter it a i ∧ e ≠ it) where
  mem := by simp
  obj := fun i h st b hb => by
    obtain ⟨⟨old, he⟩, ⟨o, ho, hc, hd⟩, _⟩ := st
    have e' : b = e ∨ b = it := by simpa using hb
    rcases e' with z | z
    · rw [z]; exact ⟨_, he, fun v q => nomatch q⟩
    · rw [z]; exact ⟨o, ho, fun v q => by rw [hd] at q; cases q⟩
  keep := fun i h h' st k => let ⟨⟨old, he⟩, hi, hne⟩ := st; ⟨⟨old, k e (by simp) _ he⟩, hi.at fun o q => k it (by simp) o q, hne⟩
  item := by
    intro X hP hw hK hc i pins s σ H E I hf st hg
    subst hP hw hK
    obtain ⟨⟨old, he⟩, hit, hne⟩ := st
    obtain ⟨xs, x, hq, hx⟩ := hg
    obtain ⟨its, rv, p, hz⟩ := I.tuple hq
    obtain ⟨u, hu, ru⟩ := rv.get hx
    have hel : e < s.heap.objs.size := Heap.lt_size he
    have hil : it < s.heap.objs.size := by obtain ⟨_, q, _⟩ := hit; exact Heap.lt_size q
    have p' : s.heap.IsTuple a its.toArray := p
    have hae : a ≠ e := by
      rintro rfl
      obtain ⟨o, ho, hcl, _⟩ := p'
      rw [he] at ho; cases ho; injection hcl with z; exact absurd z (by decide)
    have hai : a ≠ it := by
      rintro rfl
      obtain ⟨o, ho, hcl, _⟩ := p'
      obtain ⟨o2, ho2, hcl2, _⟩ := hit
      rw [ho] at ho2; cases ho2; rw [hcl] at hcl2; injection hcl2 with z; exact absurd z (by decide)
    have hlt : i < its.toArray.size := by
      have := (List.getElem?_eq_some_iff.mp hu).1
      simpa using this
    refine wpAny_pyNext_enum_itemD (Draws.tuple (A := X.A.in1) (I.ok.hd hc) it a hai its.toArray) he ⟨hit, p'⟩ hlt hne (by simp [hne, hae.symm]) fun x2 h' tk hP ho hit' hT hsz hk => ?_
    have ex : x2 = u := by
      have e1 : its.toArray[i]? = some u := by simpa using hu
      rw [e1] at hP; exact (Option.some.inj hP).symm
    subst ex
    refine ⟨_, rfl, wpAny_letOwnedTupleGo_enum (s := { s with heap := h', toks := tk + 1 }) ho fun h'' he' sb => ?_⟩
    have hT2 : h''.get? s.heap.objs.size = some { cls := .type "tuple", data := .seq #[.int i tk, x2] } := (sb.2 _ (Nat.ne_of_gt hel)).trans hT
    have new : ObjOk X.prog X.w (upd H s.heap.objs.size (.tup [.int (i : Nat), x])) h'' s.heap.objs.size (.tup [.int (i : Nat), x]) :=
      ⟨by show 2 ≤ sizeLine; decide, [.int i tk, x2], .cons ⟨_, rfl⟩ (.cons ru .nil), ⟨_, hT2, rfl, _, rfl⟩⟩
    have I1 : Inv X pins σ (upd H s.heap.objs.size (.tup [.int (i : Nat), x])) { s with heap := h'', toks := tk + 1 } :=
      I.turnedNew (t' := tk + 1) (ch := [e, it]) (fun b ob hb q => (sb.2 b (fun z => hb (by simp [z]))).trans (hk b ob (fun z => hb (by simp [z])) (fun z => hb (by simp [z])) q)) hf (Nat.le_refl _) new
    refine ⟨.ref s.heap.objs.size, _, I1, rfl, ⟨_, x, rfl, I.hok.fresh (Nat.le_refl _), rfl, fun ys hy => by rw [I.tuple_inj hy hq]; exact hx⟩, ⟨⟨x2, ?_⟩, hit'.1.at fun o q => (sb.2 it (Ne.symm hne)).trans q, hne⟩, fun b hb => ?_⟩
    · have e1 : ((i + 1 : Nat) : Int) = (i : Int) + 1 := by omega
      rw [e1]; exact he'
    · have hb' : b < s.heap.objs.size := by
        have e' : b = e ∨ b = it := by simpa using hb
        rcases e' with z | z
        · rw [z]; exact hel
        · rw [z]; exact hil
      rw [upd_ne (Nat.ne_of_lt hb')]
      exact (hf b hb).1
  done := by
    intro X hP hw hK hc i pins s σ H E I hf st hg
    subst hP hw hK
    obtain ⟨⟨old, he⟩, hit, hne⟩ := st
    obtain ⟨xs, hq, hx⟩ := hg
    obtain ⟨its, rv, p, hz⟩ := I.tuple hq
    obtain ⟨f0, f1, f2, f3, f4, f5⟩ := hf it (by simp)
    have hl := rv.length
    have p' : s.heap.IsTuple a its.toArray := p
    have hT : s.TypeIs (.ref e) "enumerate" := ⟨_, he, rfl⟩
    unfold pyNext
    refine wpAny_bind (wpAny_attempt (wpAny_callSpecial?_slot (name := Str.ofString "__next__") hT F.slot_enumerate_next
      (wpAny_call_entry F.slot_enumerate_next hT F.entry_enumerate_next ?_ (F.args_enumerate_next_1 _))))
    show wpAny _ _ (field (.ref e) 2 >>= _) _ _ _
    refine wpAny_bind (wpAny_field he rfl (x := .ref it) rfl ?_)
    refine wpAny_bind (wpAny_nextOf_tuple_end (I.ok.hd hc) hit p' (by simp; omega) fun h' x he' hx' => ?_)
    obtain ⟨o, ho, hcl⟩ := hx'
    refine wpAny_bind (wpAny_isInstance (T := "StopIteration") (b := true) ⟨o, ho, hcl⟩ isSubtype_stop ?_)
    exact wpAny_pure ⟨rfl, I.turned (t' := s.toks) (fun b o hb q => he' b o hb q) f0 f1 f3 f4 f5⟩
  self := fun A i s Q E st h => let ⟨⟨_, he⟩, _⟩ := st; wpAny_pyIter_enum he h
def iEnumT (K : PySem.W.Frag) (ta : TA) : TI := fun σ H R => ta σ H fun vs H1 => ∃ a xs, vs = [.ref a] ∧ SqT K H1 a xs ∧ R (IteT K a) H1
theorem pi_enumT {X : Cx} {e : Expr} {ta : TA} {p pos tpos : Pos} {elts : List Expr} {kk : Nat} (hg : L2.Gl X "enumerate") (hm : X.mg "enumerate" = none) (ha : PA X [e] ta) (hs : starEach [e] X.env = [(false, eval e X.env)]) :
    PI X (.Tuple elts kk tpos) (.Call (.Name "enumerate" p) [e] [] pos) (iEnumT X.K ta) := by
  refine ⟨fun pins s σ H R I h => ?_⟩
  refine Call_ (ld_blt I hg hm boot_enumerate (PyProof.Rows.callWith_type1 (thn (ha.run pos pins s σ H _ I h) fun us s1 ⟨vs, H1, I1, r1, q1⟩ => ?_) hs rfl))
  obtain ⟨a, xs, ex, hq, q⟩ := q1
  subst ex
  cases r1 with
  | cons r rr =>
    cases rr
    cases r
    obtain ⟨its, rv, p', hz⟩ := I1.tuple hq
    refine enum1_begins (begins_tuple a its.toArray) (show s1.heap.IsTuple a its.toArray from p') fun h' he hit hsz hk => wpAny_pyIter_enum he ?_
    have I2 : Inv X pins σ H1 { s1 with heap := h' } := I1.kept (t' := s1.toks) hk
    refine ⟨s1.heap.objs.size + 1, [s1.heap.objs.size + 1, s1.heap.objs.size], _, _, H1, rfl, I2, turn_enumT a (s1.heap.objs.size + 1) s1.heap.objs.size, ⟨⟨.none, he⟩, ⟨_, hit, rfl, rfl⟩, Nat.succ_ne_self _⟩, fun b hb => ?_, q⟩
    have e' : b = s1.heap.objs.size + 1 ∨ b = s1.heap.objs.size := by simpa using hb
    have hle : s1.heap.objs.size ≤ b := by
      rcases e' with z | z
      · rw [z]; exact Nat.le_add_right _ _
      · rw [z]; exact Nat.le_refl _
    exact I1.fpOk hle (I1.hok.fresh hle)
end Hr

/-! Walks: what is gone over, turn by turn. -/
namespace Hr
open PySem PySem.Spec PyProof.Rows L2
structure WalkOk (T : Tb) (K : PySem.W.Frag) (J : It) (xs : List D) (lk : Lk) (ρ1 : List Addr) (H1 : Hp) : Prop where
  go : ∀ i ρ H st, Exw ρ1 H1 ρ H → Rel T K ρ st H → lk.stands st → i < xs.length → J.go i H
  stop : ∀ ρ H st, Exw ρ1 H1 ρ H → Rel T K ρ st H → lk.stands st → J.stop xs.length H
  yld : ∀ i x ρ H st v H', Exw ρ1 H1 ρ H → Rel T K ρ st H → lk.stands st → xs[i]? = some x → J.yld i H v H' → Ext ρ H ρ H' ∧ Rel T K ρ st H' ∧ RelD T K ρ H' x v
def AnsI (T : Tb) (K : PySem.W.Frag) (W : WX) (ρ : List Addr) (H : Hp) (σ : St) (r : R (List D × Lk)) (Q : It → Hp → Prop) : Prop := match r with
  | .ok q st1 => ∀ J ρ1 H1, Ext ρ H ρ1 H1 → Rel T K ρ1 st1 H1 → WalkOk T K J q.1 q.2 ρ1 H1 → Q J H1
  | .exc c vs st1 => AX W ρ H σ c vs st1
  | .bad => False
def tI (T : Tb) (K : PySem.W.Frag) (W : WX) (ev : Env → Sto → R (List D × Lk)) : TI := fun σ H Q => ∃ ρ env st, Rel T K ρ st H ∧ RelE T K ρ H env σ ∧ AnsI T K W ρ H σ (ev env st) Q
section
variable {T : Tb} {X : Cx} {W : WX} {σ : St} {H : Hp} {ρ : List Addr} {st : Sto} {env : Env}
theorem walkOk_tup {K : PySem.W.Frag} {a : Addr} {xs : List D} {vs : List V} (R0 : Rel T K ρ st H) (sq : SqT K H a vs) (rs : RelDs T K ρ H xs vs) : WalkOk T K (Itt K a) xs .no ρ H where
  go := fun i ρ' H' st' x R1 _ hi => by
    obtain ⟨v, hv, _⟩ := rs.get (i := i) (List.getElem?_eq_getElem hi)
    exact ⟨vs, v, SqT.exw R0 x sq, hv⟩
  stop := fun ρ' H' st' x R1 _ => ⟨vs, SqT.exw R0 x sq, by rw [rs.length]; exact Nat.le_refl _⟩
  yld := fun i d ρ' H' st' v H2 x R1 _ hd y => by
    obtain ⟨rfl, y⟩ := y
    obtain ⟨u, hu, r⟩ := rs.get hd
    have := y vs (SqT.exw R0 x sq)
    rw [hu] at this; cases this
    exact ⟨Ext.refl, R1, r.exw R0 x⟩
theorem walkOk_list {K : PySem.W.Frag} {a : Addr} {xs : List D} {n : Nat} (hp : ρ[n]? = some a) : WalkOk T K (Itl K a) xs (.li n xs) ρ H where
  go := fun i ρ' H' st' x R1 hs hi => by
    obtain ⟨vs, g, rs⟩ := R1.lst (x.get hp) hs
    obtain ⟨v, hv, _⟩ := rs.get (i := i) (List.getElem?_eq_getElem hi)
    exact ⟨vs, v, SqL.of g, hv⟩
  stop := fun ρ' H' st' x R1 hs => by
    obtain ⟨vs, g, rs⟩ := R1.lst (x.get hp) hs
    exact ⟨vs, SqL.of g, by rw [rs.length]; exact Nat.le_refl _⟩
  yld := fun i d ρ' H' st' v H2 x R1 hs hd y => by
    obtain ⟨rfl, y⟩ := y
    obtain ⟨vs, g, rs⟩ := R1.lst (x.get hp) hs
    obtain ⟨u, hu, r⟩ := rs.get hd
    have := y vs (SqL.of g)
    rw [hu] at this; cases this
    exact ⟨Ext.refl, R1, r⟩
theorem walkOk_str {K : PySem.W.Frag} {z : Str} : WalkOk T K (Its z) (strItems z) .no ρ H where
  go := fun i ρ' H' st' x R1 _ hi => by
    show i < z.cps.size
    simpa [strItems] using hi
  stop := fun ρ' H' st' x R1 _ => by show z.cps.size ≤ _; simp [strItems]
  yld := fun i d ρ' H' st' v H2 x R1 _ hd y => by
    obtain ⟨rfl, c, hc, rfl⟩ := y
    refine ⟨Ext.refl, R1, ?_⟩
    unfold strItems at hd
    rw [List.getElem?_map] at hd
    have : z.cps.toList[i]? = some c := by simpa using hc
    rw [this] at hd; cases hd
    exact .str _
theorem walkOk_range {K : PySem.W.Frag} {lo : Int} {n : Nat} {hi : Int} (e : n = (hi - lo).toNat) : WalkOk T K (Itr lo n) (rngI lo hi) .no ρ H where
  go := fun i ρ' H' st' x R1 _ hi => by show i < n; simpa [rngI, e] using hi
  stop := fun ρ' H' st' x R1 _ => by show n ≤ _; simp [rngI, e]
  yld := fun i d ρ' H' st' v H2 x R1 _ hd y => by
    obtain ⟨rfl, rfl⟩ := y
    refine ⟨Ext.refl, R1, ?_⟩
    unfold rngI at hd
    rw [List.getElem?_map] at hd
    cases q : (List.range (hi - lo).toNat)[i]? with
    | none => rw [q] at hd; cases hd
    | some k =>
      rw [q] at hd; cases hd
      have := List.getElem?_eq_some_iff.mp q
      obtain ⟨_, e2⟩ := this
      simp at e2; subst e2
      exact .int _
theorem enumD_get {xs : List D} {i : Nat} {d : D} (h : (enumD xs)[i]? = some d) : ∃ x, xs[i]? = some x ∧ d = .tup [.int (i : Nat), x] := by
  unfold enumD at h
  rw [List.getElem?_zipWith] at h
  cases q : xs[i]? with
  | none => rw [q] at h; cases (List.range xs.length)[i]? <;> simp at h
  | some x =>
    rw [q] at h
    have hi := (List.getElem?_eq_some_iff.mp q).1
    rw [List.getElem?_range hi] at h
    simp at h
    exact ⟨x, rfl, h.symm⟩
theorem enumD_len (xs : List D) : (enumD xs).length = xs.length := by simp [enumD]
theorem pair_new {K : PySem.W.Frag} {a b : D} {x y : V} {p : Addr} (R1 : Rel T K ρ st H) (hp : H p = none) (ra : RelD T K ρ H a x) (rb : RelD T K ρ H b y) : Ext ρ H ρ (upd H p (.tup [x, y])) ∧ Rel T K ρ st (upd H p (.tup [x, y])) ∧ RelD T K ρ (upd H p (.tup [x, y])) (.tup [a, b]) (.ref p) :=
  ⟨Ext.laid R1 hp, R1.laid hp, .tup (SqT.of upd_same) (.cons (ra.ext R1 (Ext.laid R1 hp)) (.cons (rb.ext R1 (Ext.laid R1 hp)) .nil))⟩
theorem walkOk_enumT {K : PySem.W.Frag} {a : Addr} {xs : List D} {vs : List V} (R0 : Rel T K ρ st H) (sq : SqT K H a vs) (rs : RelDs T K ρ H xs vs) : WalkOk T K (IteT K a) (enumD xs) .no ρ H where
  go := fun i ρ' H' st' x R1 _ hi => by
    rw [enumD_len] at hi
    obtain ⟨v, hv, _⟩ := rs.get (i := i) (List.getElem?_eq_getElem hi)
    exact ⟨vs, v, SqT.exw R0 x sq, hv⟩
  stop := fun ρ' H' st' x R1 _ => ⟨vs, SqT.exw R0 x sq, by rw [enumD_len, rs.length]; exact Nat.le_refl _⟩
  yld := fun i d ρ' H' st' v H2 x R1 _ hd y => by
    obtain ⟨p, w, rfl, hp, rfl, y⟩ := y
    obtain ⟨e, he, rfl⟩ := enumD_get hd
    obtain ⟨u, hu, r⟩ := rs.get he
    have := y vs (SqT.exw R0 x sq)
    rw [hu] at this; cases this
    exact pair_new R1 hp (.int _) (r.exw R0 x)
theorem walkOk_enum {K : PySem.W.Frag} {a : Addr} {xs : List D} {n : Nat} (hp : ρ[n]? = some a) : WalkOk T K (Ite K a) (enumD xs) (.li n xs) ρ H where
  go := fun i ρ' H' st' x R1 hs hi => by
    rw [enumD_len] at hi
    obtain ⟨vs, g, rs⟩ := R1.lst (x.get hp) hs
    obtain ⟨v, hv, _⟩ := rs.get (i := i) (List.getElem?_eq_getElem hi)
    exact ⟨vs, v, SqL.of g, hv⟩
  stop := fun ρ' H' st' x R1 hs => by
    obtain ⟨vs, g, rs⟩ := R1.lst (x.get hp) hs
    exact ⟨vs, SqL.of g, by rw [enumD_len, rs.length]; exact Nat.le_refl _⟩
  yld := fun i d ρ' H' st' v H2 x R1 hs hd y => by
    obtain ⟨p, w, rfl, hp', rfl, y⟩ := y
    obtain ⟨vs, g, rs⟩ := R1.lst (x.get hp) hs
    obtain ⟨e, he, rfl⟩ := enumD_get hd
    obtain ⟨u, hu, r⟩ := rs.get he
    have := y vs (SqL.of g)
    rw [hu] at this; cases this
    exact pair_new R1 hp' (.int _) r
/-! ### the rules -/
theorem sI_ex {tg l : Expr} {m : Env → Sto → R D} (hl : PE X l (tE T X.K W m)) : PI X tg l (tI T X.K W fun env st => (m env st).bind fun x st1 => ofO (exI x st1) st1) := by
  refine ⟨fun pins s σ H Q I h => ?_⟩
  obtain ⟨ρ, env, st, R0, E0, h⟩ := h
  cases e : m env st with
  | bad => dsimp only at h; rw [e] at h; exact h.elim
  | exc c vs st1 => dsimp only at h; rw [e] at h; exact h.elim
  | ok d st1 =>
    dsimp only at h; rw [e] at h
    cases d with
    | tup xs =>
      refine (pi_tup hl).run pins s σ H Q I ⟨ρ, env, st, R0, E0, ?_⟩
      rw [e]
      intro v ρ1 H1 x1 R1 rd
      cases rd with
      | @tup a _ vs sq rs => exact ⟨a, rfl, ⟨vs, sq⟩, h _ ρ1 H1 x1 R1 (walkOk_tup R1 sq rs)⟩
    | str z =>
      refine (pi_str hl).run pins s σ H Q I ⟨ρ, env, st, R0, E0, ?_⟩
      rw [e]
      intro v ρ1 H1 x1 R1 rd
      cases rd with
      | str => exact ⟨z, rfl, h _ ρ1 H1 x1 R1 walkOk_str⟩
    | ref n =>
      cases g : st1.get n with
      | none => simp only [R.bind, exI, g] at h; exact h.elim
      | some o =>
        cases o with
        | lst xs =>
          simp only [R.bind, exI, g] at h
          refine (pi_list hl).run pins s σ H Q I ⟨ρ, env, st, R0, E0, ?_⟩
          rw [e]
          intro v ρ1 H1 x1 R1 rd
          cases rd with
          | @ref _ a hp =>
            obtain ⟨vs, g1, rs⟩ := R1.lst hp g
            exact ⟨a, rfl, ⟨vs, SqL.of g1⟩, h _ ρ1 H1 x1 R1 (walkOk_list hp)⟩
        | _ => simp only [R.bind, exI, g] at h; exact h.elim
    | _ => exact h.elim
theorem sI_enum {e : Expr} {m : Env → Sto → R D} {elts : List Expr} {kk : Nat} {p pos tpos : Pos} (hg : L2.Gl X "enumerate") (hm : X.mg "enumerate" = none) (he : PE X e (tE T X.K W m)) (hs : starEach [e] X.env = (false, eval e X.env) :: starEach [] X.env) :
    PI X (.Tuple elts kk tpos) (.Call (.Name "enumerate" p) [e] [] pos) (tI T X.K W fun env st => (m env st).bind fun x st1 => ofO (enumI x st1) st1) := by
  have ha : PA X [e] (tA T X.K W fun env st => (m env st).bind fun x st1 => (R.ok (α := List D) [] st1).bind fun xs st2 => .ok (x :: xs) st2) := sA_cons he sA_nil hs
  refine ⟨fun pins s σ H Q I h => ?_⟩
  obtain ⟨ρ, env, st, R0, E0, h⟩ := h
  cases q : m env st with
  | bad => dsimp only at h; rw [q] at h; exact h.elim
  | exc c vs st1 => dsimp only at h; rw [q] at h; exact h.elim
  | ok d st1 =>
    dsimp only at h; rw [q] at h
    cases d with
    | tup xs =>
      refine (pi_enumT hg hm ha hs).run pins s σ H Q I ⟨ρ, env, st, R0, E0, ?_⟩
      dsimp only; rw [q]
      intro v ρ1 H1 x1 R1 rd
      obtain ⟨v, rfl, rd'⟩ := rd.one
      cases rd' with
      | @tup a _ vs sq rs => exact ⟨a, vs, rfl, sq, h _ ρ1 H1 x1 R1 (walkOk_enumT R1 sq rs)⟩
    | ref n =>
      cases g : st1.get n with
      | none => simp only [R.bind, enumI, g] at h; exact h.elim
      | some o =>
        cases o with
        | lst xs =>
          simp only [R.bind, enumI, g] at h
          refine (pi_enum hg hm ha hs).run pins s σ H Q I ⟨ρ, env, st, R0, E0, ?_⟩
          dsimp only; rw [q]
          intro v ρ1 H1 x1 R1 rd
          obtain ⟨v, rfl, rd'⟩ := rd.one
          cases rd' with
          | @ref _ a hp =>
            obtain ⟨vs, g1, rs⟩ := R1.lst hp g
            exact ⟨a, vs, rfl, SqL.of g1, h _ ρ1 H1 x1 R1 (walkOk_enum hp)⟩
        | _ => simp only [R.bind, enumI, g] at h; exact h.elim
    | _ => exact h.elim
theorem two62 : (2 : Int) ^ 62 = 4611686018427387904 := by decide
theorem small62_iff {i : Int} (h : small62 i = true) : -(2 ^ 62) ≤ i ∧ i < 2 ^ 62 := by
  unfold small62 at h
  simpa using h
theorem rngV_cases {vs : List D} {xs : List D} (h : rngV vs = some xs) : (∃ j, vs = [.int j] ∧ (-(2 ^ 62) ≤ j ∧ j < 2 ^ 62) ∧ xs = rngI 0 j) ∨ (∃ i j, vs = [.int i, .int j] ∧ (-(2 ^ 62) ≤ i ∧ i < 2 ^ 62 ∧ -(2 ^ 62) ≤ j ∧ j < 2 ^ 62) ∧ xs = rngI i j) ∨
    (∃ i j, vs = [.int i, .int j, .int (-1)] ∧ (-(2 ^ 61) ≤ i ∧ i < 2 ^ 61 ∧ -(2 ^ 61) ≤ j ∧ j < 2 ^ 61) ∧ xs = (List.range (i - j).toNat).map fun (k : Nat) => .int (i - (k : Int))) := by
  unfold rngV at h
  split at h
  · split at h
    · next c => cases h; exact .inl ⟨_, rfl, small62_iff c, rfl⟩
    · cases h
  · split at h
    · next c =>
      simp only [Bool.and_eq_true] at c
      cases h
      exact .inr (.inl ⟨_, _, rfl, ⟨(small62_iff c.1).1, (small62_iff c.1).2, (small62_iff c.2).1, (small62_iff c.2).2⟩, rfl⟩)
    · cases h
  · split at h
    · next c =>
      simp only [Bool.and_eq_true, decide_eq_true_eq] at c
      cases h
      exact .inr (.inr ⟨_, _, rfl, ⟨c.1.1.1, c.1.1.2, c.1.2, c.2⟩, rfl⟩)
    · cases h
  · cases h
/-- the range's answer, one level up -/
theorem ansI_rng {ρ : List Addr} {H : Hp} {σ : St} {env : Env} {st : Sto} {ms : Env → Sto → R (List D)} {Q : It → Hp → Prop} (R0 : Rel T X.K ρ st H) (E0 : RelE T X.K ρ H env σ)
    (h : AnsI T X.K W ρ H σ ((ms env st).bind fun vs st1 => (ofO (rngV vs) st1).bind fun xs st2 => .ok (xs, .no) st2) Q) :
    ∃ vs st1 xs, ms env st = .ok vs st1 ∧ rngV vs = some xs ∧ ∀ J ρ1 H1, Ext ρ H ρ1 H1 → Rel T X.K ρ1 st1 H1 → WalkOk T X.K J xs .no ρ1 H1 → Q J H1 := by
  cases e : ms env st with
  | bad => rw [e] at h; exact h.elim
  | exc c vs st1 => rw [e] at h; exact h.elim
  | ok vs st1 =>
    rw [e] at h
    cases q : rngV vs with
    | none => simp only [R.bind, q, ofO] at h; exact h.elim
    | some xs =>
      simp only [R.bind, q, ofO] at h
      exact ⟨vs, st1, xs, rfl, q, h⟩
theorem sI_rng1 {tg a : Expr} {ms : Env → Sto → R (List D)} {p pos : Pos} (hg : L2.Gl X "range") (hm : X.mg "range" = none) (ha : PA X [a] (tA T X.K W ms)) (hs : starEach [a] X.env = (false, eval a X.env) :: starEach [] X.env) (h1 : ∀ env st vs st1, ms env st = .ok vs st1 → vs.length = 1) :
    PI X tg (.Call (.Name "range" p) [a] [] pos) (tI T X.K W fun env st => (ms env st).bind fun vs st1 => (ofO (rngV vs) st1).bind fun xs st2 => .ok (xs, .no) st2) := by
  refine ⟨fun pins s σ H Q I h => ?_⟩
  obtain ⟨ρ, env, st, R0, E0, h⟩ := h
  obtain ⟨vs, st1, xs, e, q, h⟩ := ansI_rng R0 E0 h
  have hl := h1 _ _ _ _ e
  rcases rngV_cases q with ⟨j, rfl, b, rfl⟩ | ⟨i, j, rfl, _⟩ | ⟨i, j, rfl, _⟩
  · refine (pi_range1 hg hm ha hs).run pins s σ H Q I ⟨ρ, env, st, R0, E0, ?_⟩
    rw [e]
    intro v ρ1 H1 x1 R1 rd
    obtain ⟨v, rfl, rd'⟩ := rd.one
    cases rd' with
    | int => exact ⟨j, rfl, b.1, b.2, h _ ρ1 H1 x1 R1 (walkOk_range (by simp))⟩
  · simp at hl
  · simp at hl
theorem RelDs.two {vs : List V} {d e : D} (h : RelDs T X.K ρ H [d, e] vs) : ∃ v w, vs = [v, w] ∧ RelD T X.K ρ H d v ∧ RelD T X.K ρ H e w := by
  cases h with | cons a b => obtain ⟨w, rfl, r⟩ := RelDs.one b; exact ⟨_, _, rfl, a, r⟩
theorem sI_rng2 {tg a b : Expr} {ms : Env → Sto → R (List D)} {p pos : Pos} (hg : L2.Gl X "range") (hm : X.mg "range" = none) (ha : PA X [a, b] (tA T X.K W ms)) (hs : starEach [a, b] X.env = (false, eval a X.env) :: starEach [b] X.env) (hs2 : starEach [b] X.env = (false, eval b X.env) :: starEach [] X.env)
    (h1 : ∀ env st vs st1, ms env st = .ok vs st1 → vs.length = 2) :
    PI X tg (.Call (.Name "range" p) [a, b] [] pos) (tI T X.K W fun env st => (ms env st).bind fun vs st1 => (ofO (rngV vs) st1).bind fun xs st2 => .ok (xs, .no) st2) := by
  refine ⟨fun pins s σ H Q I h => ?_⟩
  obtain ⟨ρ, env, st, R0, E0, h⟩ := h
  obtain ⟨vs, st1, xs, e, q, h⟩ := ansI_rng R0 E0 h
  have hl := h1 _ _ _ _ e
  rcases rngV_cases q with ⟨j, rfl, _⟩ | ⟨i, j, rfl, b, rfl⟩ | ⟨i, j, rfl, _⟩
  · simp at hl
  · refine (pi_range2 hg hm ha (by rw [hs, hs2]; rfl) (by rw [hs2]; rfl)).run pins s σ H Q I ⟨ρ, env, st, R0, E0, ?_⟩
    rw [e]
    intro v ρ1 H1 x1 R1 rd
    obtain ⟨v, w, rfl, r1, r2⟩ := rd.two
    cases r1 with
    | int => cases r2 with
      | int => exact ⟨i, j, rfl, b, h _ ρ1 H1 x1 R1 (walkOk_range rfl)⟩
  · simp at hl
end
end Hr

/-! Statements, rule by rule. -/
namespace Hr
open PySem PySem.Spec PyProof.Rows L2
section
variable {T : Tb} {X : Cx} {W : WX} {G : Pg} {C : Calls} {K : PySem.W.Frag} {σ : St} {H H' : Hp} {ρ ρ' : List Addr} {st : Sto} {env : Env}
theorem RelE.set {i : Nat} {d : D} {v : V} (E0 : RelE T K ρ H env σ) (r : RelD T K ρ H d v) : RelE T K ρ H (env.set i (some d)) (σ.set i (some v)) := by
  refine ⟨by simp [E0.len], fun j e h => ?_⟩
  by_cases hj : i = j
  · subst hj
    by_cases hl : i < env.length
    · rw [List.getElem?_set_self hl] at h
      cases h
      exact ⟨v, by rw [List.getElem?_set_self (by rw [← E0.len]; exact hl)], r⟩
    · rw [List.getElem?_eq_none (by simpa using hl)] at h; cases h
  · rw [List.getElem?_set_ne hj] at h
    obtain ⟨w, hw, q⟩ := E0.at_ j e h
    exact ⟨w, by rw [List.getElem?_set_ne hj]; exact hw, q⟩
theorem RelE.unset {i : Nat} (E0 : RelE T K ρ H env σ) : RelE T K ρ H (env.set i none) (σ.set i none) := by
  refine ⟨by simp [E0.len], fun j e h => ?_⟩
  by_cases hj : i = j
  · subst hj
    by_cases hl : i < env.length
    · rw [List.getElem?_set_self hl] at h; cases h
    · rw [List.getElem?_eq_none (by simpa using hl)] at h; cases h
  · rw [List.getElem?_set_ne hj] at h
    obtain ⟨w, hw, q⟩ := E0.at_ j e h
    exact ⟨w, by rw [List.getElem?_set_ne hj]; exact hw, q⟩
theorem RelE.wipe (E0 : RelE T K ρ H env σ) : ∀ l : List Nat, RelE T K ρ H (wipe env l) (L2.wipe σ l)
  | [] => E0
  | i :: l => (RelE.wipe E0 l).unset
/-! ### targets -/
/-- the same but for those slots -/
def Same (sl : List Nat) (σ σ' : St) : Prop := σ'.length = σ.length ∧ ∀ i, i ∉ sl → σ'[i]? = σ[i]?
theorem Same.refl {sl : List Nat} {σ : St} : Same sl σ σ := ⟨rfl, fun _ _ => rfl⟩
theorem Same.trans {sl sl' : List Nat} {σ σ' σ'' : St} (a : Same sl σ σ') (b : Same sl' σ' σ'') : Same (sl ++ sl') σ σ'' :=
  ⟨b.1.trans a.1, fun i h => (b.2 i fun z => h (List.mem_append_right _ z)).trans (a.2 i fun z => h (List.mem_append_left _ z))⟩
theorem Same.set {σ : St} {i : Nat} {o : Option V} : Same [i] σ (σ.set i o) := ⟨by simp, fun j h => by rw [List.getElem?_set_ne (by simpa [eq_comm] using h)]⟩
theorem wipe_at {σ : St} {l : List Nat} {i : Nat} : (L2.wipe σ l)[i]? = if i ∈ l ∧ i < σ.length then some none else σ[i]? := by
  induction l with
  | nil => simp [L2.wipe]
  | cons j l ih =>
    unfold L2.wipe
    rw [List.getElem?_set, L2.wipe_length]
    by_cases h : j = i
    · subst h
      by_cases h2 : j < σ.length
      · simp [h2]
      · simp [h2]
    · rw [if_neg h, ih]
      simp [Ne.symm h]
theorem Same.wipe {sl own : List Nat} {σ σ' : St} (h : Same sl σ σ') (hs : ∀ i ∈ sl, i ∈ own) : L2.wipe σ' own = L2.wipe σ own := by
  apply List.ext_getElem?
  intro i
  rw [wipe_at, wipe_at, h.1]
  by_cases k : i ∈ own ∧ i < σ.length
  · rw [if_pos k, if_pos k]
  · rw [if_neg k, if_neg k]
    by_cases k2 : i ∈ sl
    · have : ¬ i < σ.length := fun z => k ⟨hs i k2, z⟩
      rw [List.getElem?_eq_none (by rw [h.1]; omega), List.getElem?_eq_none (by omega)]
    · exact h.2 i k2
theorem wipe_wipe {own : List Nat} {σ : St} : L2.wipe (L2.wipe σ own) own = L2.wipe σ own := by
  apply List.ext_getElem?
  intro i
  rw [wipe_at, wipe_at, L2.wipe_length]
  by_cases k : i ∈ own ∧ i < σ.length
  · simp [k]
  · simp [k]
def tG (T : Tb) (K : PySem.W.Frag) (sl : List Nat) (f : D → Env → Option Env) : TG := fun v σ H Q => ∃ ρ env st d env', Rel T K ρ st H ∧ RelE T K ρ H env σ ∧ RelD T K ρ H d v ∧ f d env = some env' ∧ ∀ σ' ρ' H', Same sl σ σ' → Ext ρ H ρ' H' → Rel T K ρ' st H' → RelE T K ρ' H' env' σ' → Q σ' H'
def tGs (T : Tb) (K : PySem.W.Frag) (sl : List Nat) (f : List D → Env → Option Env) : TGs := fun v σ H Q => ∃ ρ env st d env', Rel T K ρ st H ∧ RelE T K ρ H env σ ∧ RelDs T K ρ H d v ∧ f d env = some env' ∧ ∀ σ' ρ' H', Same sl σ σ' → Ext ρ H ρ' H' → Rel T K ρ' st H' → RelE T K ρ' H' env' σ' → Q σ' H'
theorem sG_nm {i : Nat} {x : Str} {pos : Pos} (hN : X.N.Nodup) (hi : X.N[i]? = some x) (hx : Loc X.env.scope x) (hf : X.fn x = true ∨ X.env.scope.names.lookup x = some .local) : PG X (.Name x pos) (tG T X.K [i] (asgT (.nm i))) := by
  refine ⟨fun pins s σ H v u Q I r h => (pg_name hN hi hx hf).run pins s σ H v u Q I r ?_⟩
  obtain ⟨ρ, env, st, d, env', R0, E0, rd, e, q⟩ := h
  simp only [asgT, Option.some.injEq] at e
  subst e
  exact q _ ρ H Same.set Ext.refl R0 (E0.set rd)
theorem sGs_nil : PGs X [] (tGs T X.K [] (asgT.asgTs [])) := by
  refine ⟨fun pins s σ H vs us Q I r h => pgs_nil.run pins s σ H vs us Q I r ?_⟩
  obtain ⟨ρ, env, st, d, env', R0, E0, rd, e, q⟩ := h
  cases d with
  | nil =>
    simp only [asgT.asgTs, Option.some.injEq] at e
    subst e
    cases rd
    exact ⟨rfl, q _ ρ H Same.refl Ext.refl R0 E0⟩
  | cons _ _ => simp [asgT.asgTs] at e
theorem sGs_cons {t : Hr.T} {ts : List Hr.T} {e : Expr} {es : List Expr} {sl sl' : List Nat} (h1 : PG X e (tG T X.K sl (asgT t))) (h2 : PGs X es (tGs T X.K sl' (asgT.asgTs ts)))
    (hs : (assignEach (e :: es) X.env).map (·.2) = assign e X.env :: (assignEach es X.env).map (·.2)) : PGs X (e :: es) (tGs T X.K (sl ++ sl') (asgT.asgTs (t :: ts))) := by
  refine ⟨fun pins s σ H vs us Q I r h => (pgs_cons h1 h2 hs).run pins s σ H vs us Q I r ?_⟩
  obtain ⟨ρ, env, st, d, env', R0, E0, rd, e, q⟩ := h
  cases d with
  | nil => simp [asgT.asgTs] at e
  | cons x xs =>
    cases rd with
    | cons rx rxs =>
      simp only [asgT.asgTs, Option.bind_eq_some_iff] at e
      obtain ⟨env1, e1, e2⟩ := e
      exact ⟨_, _, rfl, ρ, env, st, x, env1, R0, E0, rx, e1, fun σ' ρ' H' S1 X1 R1 E1 => ⟨ρ', env1, st, xs, env', R1, E1, rxs.ext R0 X1, e2, fun σ2 ρ2 H2 S2 X2 R2 E2 => q σ2 ρ2 H2 (S1.trans S2) (X1.trans X2) R2 E2⟩⟩
theorem asgTs_len : ∀ {ts : List Hr.T} {xs : List D} {env env' : Env}, asgT.asgTs ts xs env = some env' → xs.length = ts.length
  | [], [], _, _, _ => rfl
  | [], _ :: _, _, _, h => by simp [asgT.asgTs] at h
  | _ :: _, [], _, _, h => by simp [asgT.asgTs] at h
  | t :: ts, x :: xs, _, _, h => by
    simp only [asgT.asgTs, Option.bind_eq_some_iff] at h
    obtain ⟨env1, _, e2⟩ := h
    simp [asgTs_len e2]
theorem sG_tp {ts : List Hr.T} {es : List Expr} {sl : List Nat} {k : Nat} {pos : Pos} (hc : X.calm = true) (h : PGs X es (tGs T X.K sl (asgT.asgTs ts))) (hn : (assignEach es X.env).length = ts.length) (hst : (assignEach es X.env).findIdx? (·.1) = none) : PG X (.Tuple es k pos) (tG T X.K sl (asgT (.tp ts))) := by
  refine ⟨fun pins s σ H v u Q I r h2 => (pg_tup hc h hn hst).run pins s σ H v u Q I r ?_⟩
  obtain ⟨ρ, env, st, d, env', R0, E0, rd, e, q⟩ := h2
  cases rd with
  | @tup a xs vs sq rs =>
    simp only [asgT] at e
    exact ⟨a, vs, rfl, sq, by rw [← rs.length]; exact asgTs_len e, ρ, env, st, xs, env', R0, E0, rs, e, q⟩
  | _ => simp [asgT] at e
/-! ### small statements -/
theorem AnsS.ext {ex : SR} {D : Ends} (x : Ext ρ H ρ' H') (h : AnsS T K W ρ H ex D) : AnsS T K W ρ' H' ex D := by
  cases ex with
  | bad => exact h
  | exc c vs env st => exact fun σ ρ2 H2 y e => h σ ρ2 H2 (x.trans y) e
  | _ => exact fun a ρ2 H2 y => h a ρ2 H2 (x.trans y)
theorem sS_seq {s : Stmt} {ss : List Stmt} {m : Env → Sto → SR} {ms : Env → Sto → SR} (h1 : PS X s (tS T X.K W m)) (h2 : PSs X ss (tS T X.K W ms)) : PSs X (s :: ss) (tS T X.K W fun env st => (m env st).seq ms) := by
  refine PSs.weak (pss_cons h1 h2) fun D σ H h => ?_
  obtain ⟨ρ, env, st, R0, E0, a⟩ := h
  refine ⟨ρ, env, st, R0, E0, ?_⟩
  dsimp only at a
  cases e : m env st with
  | nx env1 st1 =>
    rw [e] at a
    exact fun σ1 ρ1 H1 X1 R1 E1 => ⟨ρ1, env1, st1, R1, E1, AnsS.ext X1 a⟩
  | _ => rw [e] at a; exact a
theorem sS_nil : PSs X [] (tS T X.K W fun env st => .nx env st) := by
  refine PSs.weak pss_nil fun D σ H h => ?_
  obtain ⟨ρ, env, st, R0, E0, a⟩ := h
  exact a σ ρ H Ext.refl R0 E0
/-- an expression's answer within a statement -/
theorem toS {α β : Type} {RV : List Addr → Hp → α → β → Prop} {ev : Env → Sto → R α} {f : α → Sto → SR} {D : Ends} {r : SR} (hr : (∀ d st1, ev env st = .ok d st1 → r = f d st1) ∧ (∀ c vs st1, ev env st = .exc c vs st1 → r = .exc c vs env st1) ∧ (ev env st = .bad → r = .bad)) (R0 : Rel T K ρ st H) (E0 : RelE T K ρ H env σ) (h : AnsS T K W ρ H r D) :
    tX T K RV W ev σ H (fun v H' => ∃ d st' ρ', Rel T K ρ' st' H' ∧ RelE T K ρ' H' env σ ∧ Ext ρ H ρ' H' ∧ RV ρ' H' d v ∧ AnsS T K W ρ' H' (f d st') D) := by
  refine ⟨ρ, env, st, R0, E0, ?_⟩
  cases e : ev env st with
  | ok d st1 =>
    rw [hr.1 _ _ e] at h
    exact fun v ρ1 H1 X1 R1 rv => ⟨d, st1, ρ1, R1, E0.ext R0 X1, X1, rv, AnsS.ext X1 h⟩
  | exc c vs st1 => rw [hr.2.1 _ _ _ e] at h; exact h σ ρ H Ext.refl E0
  | bad => rw [hr.2.2 e] at h; exact h.elim
theorem stepS {ev : Env → Sto → R D} {f : D → Sto → SR} {D : Ends} (R0 : Rel T K ρ st H) (E0 : RelE T K ρ H env σ) (h : AnsS T K W ρ H ((ev env st).to env f) D) :
    tX T K (RelD T K) W ev σ H (fun v H' => ∃ d st' ρ', Rel T K ρ' st' H' ∧ RelE T K ρ' H' env σ ∧ Ext ρ H ρ' H' ∧ RelD T K ρ' H' d v ∧ AnsS T K W ρ' H' (f d st') D) := by
  refine toS (RV := RelD T K) (ev := ev) (f := f) ⟨fun _ _ e => by rw [e]; rfl, fun _ _ _ e => by rw [e]; rfl, fun e => by rw [e]; rfl⟩ R0 E0 h
theorem sS_expr {e : Expr} {m : Env → Sto → R D} {pos : Pos} (he : PE X e (tE T X.K W m)) (hs : swapsWith e none pos.line X.env = pure false) : PS X (.Expr e pos) (tS T X.K W fun env st => (m env st).to env fun _ st1 => .nx env st1) := by
  refine PS.weak (ps_expr he hs) fun D σ H h => ?_
  obtain ⟨ρ, env, st, R0, E0, a⟩ := h
  refine (stepS R0 E0 a).imp fun x H1 q => ?_
  obtain ⟨d, st1, ρ1, R1, E1, X1, r1, q⟩ := q
  exact q σ ρ1 H1 Ext.refl R1 E1
theorem sS_ret {e : Expr} {m : Env → Sto → R D} {pos : Pos} (he : PE X e (tE T X.K W m)) : PS X (.Return (some e) pos) (tS T X.K W fun env st => (m env st).to env fun d st1 => .rt d st1) := by
  refine PS.weak (ps_ret he) fun D σ H h => ?_
  obtain ⟨ρ, env, st, R0, E0, a⟩ := h
  refine (stepS R0 E0 a).imp fun x H1 q => ?_
  obtain ⟨d, st1, ρ1, R1, E1, X1, r1, q⟩ := q
  exact q x ρ1 H1 Ext.refl R1 r1
theorem sS_retN {pos : Pos} : PS X (.Return none pos) (tS T X.K W fun _ st => .rt .non st) := by
  refine PS.weak ps_retN fun D σ H h => ?_
  obtain ⟨ρ, env, st, R0, E0, a⟩ := h
  exact a .non ρ H Ext.refl R0 .non
theorem sS_brk {pos : Pos} : PS X (.Break pos) (tS T X.K W fun env st => .bk env st) := by
  refine PS.weak ps_break fun D σ H h => ?_
  obtain ⟨ρ, env, st, R0, E0, a⟩ := h
  exact a σ ρ H Ext.refl R0 E0
theorem sS_cnt {pos : Pos} : PS X (.Continue pos) (tS T X.K W fun env st => .ct env st) := by
  refine PS.weak ps_continue fun D σ H h => ?_
  obtain ⟨ρ, env, st, R0, E0, a⟩ := h
  exact a σ ρ H Ext.refl R0 E0
theorem sS_pss {pos : Pos} : PS X (.Pass pos) (tS T X.K W fun env st => .nx env st) := by
  refine PS.weak ps_pass fun D σ H h => ?_
  obtain ⟨ρ, env, st, R0, E0, a⟩ := h
  exact a σ ρ H Ext.refl R0 E0
theorem sS_asg {t : Hr.T} {sl : List Nat} {tg e : Expr} {m : Env → Sto → R D} {pos : Pos} (he : PE X e (tE T X.K W m)) (hg : PG X tg (tG T X.K sl (asgT t))) (hs : swapsWithSole [tg] e pos.line X.env = pure false) (hw : swappedStores [tg] e X.env = pure none)
    (h1 : (assignEach [tg] X.env).map (·.2) = [assign tg X.env]) : PS X (.Assign [tg] e pos) (tS T X.K W fun env st => (m env st).to env fun d st1 => (match asgT t d env with
    | some env1 => .nx env1 st1
    | none => .bad)) := by
  refine PS.weak (ps_asg he hg hs hw h1) fun D σ H h => ?_
  obtain ⟨ρ, env, st, R0, E0, a⟩ := h
  refine (stepS R0 E0 a).imp fun x H1 q => ?_
  obtain ⟨d, st1, ρ1, R1, E1, X1, r1, q⟩ := q
  cases e : asgT t d env with
  | none => rw [e] at q; exact q.elim
  | some env1 => rw [e] at q; exact ⟨ρ1, env, st1, d, env1, R1, E1, r1, e, fun σ' ρ' H' _ X' R' E' => q σ' ρ' H' X' R' E'⟩
theorem tru_ans {d : D} {x : V} {b : Bool} (r : RelD T K ρ H d x) (h : truB d st = some b) : x = .bl b := by
  cases r with
  | bl k => simp only [truB, Option.some.injEq] at h; subst h; rfl
  | _ => simp [truB] at h
theorem sS_iff {c : Expr} {a b : List Stmt} {mc : Env → Sto → R D} {ma mb : Env → Sto → SR} {pos : Pos} (hc : PT X c (tT T X.K W fun env st => truR (mc env st))) (ha : PSs X a (tS T X.K W ma)) (hb : PSs X b (tS T X.K W mb)) :
    PS X (.If c a b pos) (tS T X.K W fun env st => (mc env st).to env fun d st1 => (match truB d st1 with
    | some true => ma env st1
    | some false => mb env st1
    | none => .bad)) := by
  refine PS.weak (ps_if hc ha hb) fun D σ H h => ?_
  obtain ⟨ρ, env, st, R0, E0, h⟩ := h
  refine (toS (RV := RB) (ev := fun env st => truR (mc env st)) (f := fun k st1 => match k with
      | true => ma env st1
      | false => mb env st1) (r := (mc env st).to env fun d st1 => (match truB d st1 with
    | some true => ma env st1
    | some false => mb env st1
    | none => .bad)) ?_ R0 E0 h).imp fun x H1 q => ?_
  · cases e : mc env st with
    | ok d st1 =>
      cases q : truB d st1 with
      | none => simp [truR, R.bind, R.to, ofO, e, q]
      | some k => cases k <;> simp [truR, R.bind, R.to, ofO, e, q]
    | exc c vs st1 => simp [truR, R.bind, R.to, e]
    | bad => simp [truR, R.bind, R.to, e]
  obtain ⟨k, st1, ρ1, R1, E1, X1, rfl, q⟩ := q
  cases k with
  | true => exact ⟨ρ1, env, st1, R1, E1, q⟩
  | false => exact ⟨ρ1, env, st1, R1, E1, q⟩
theorem sS_aug {i : Nat} {x : Str} {e : Expr} {m : Env → Sto → R D} {op : BOp} {pos pos' : Pos} (hN : X.N.Nodup) (hi : X.N[i]? = some x) (hx : Loc X.env.scope x) (he : PE X e (tE T X.K W m)) (hf : X.fn x = true ∨ X.env.scope.names.lookup x = some .local) :
    PS X (.AugAssign (.Name x pos') (opOf op) e pos) (tS T X.K W fun env st => (match env[i]? with
    | some (some x) => (m env st).to env fun y st1 => (ofO (augV op x y) st1).to env fun z st2 => .nx (env.set i (some z)) st2
    | _ => .bad)) := by
  obtain ⟨r, ho, hr⟩ := augR' (T := T) (X := X) op
  have hp : PIp X (opOf op) r := ho
  refine PS.weak (ps_aug hN hi hx he hp hf) fun D σ H h => ?_
  obtain ⟨ρ, env, st, R0, E0, h⟩ := h
  dsimp only at h
  cases q : env[i]? with
  | none => rw [q] at h; exact h.elim
  | some o =>
    cases o with
    | none => rw [q] at h; exact h.elim
    | some d =>
      rw [q] at h
      obtain ⟨v, hv, rd⟩ := E0.at_ i d q
      refine ⟨v, hv, (stepS R0 E0 h).imp fun y H1 q => ?_⟩
      obtain ⟨e, st1, ρ1, R1, E1, X1, r1, q⟩ := q
      cases z : augV op d e with
      | none => rw [z] at q; exact q.elim
      | some g =>
        rw [z] at q
        refine hr ρ1 H1 d e g v y _ (rd.ext R0 X1) r1 z fun w rw' => ?_
        exact q _ ρ1 H1 Ext.refl R1 (E1.set rw')
/-- xs[i] = v -/
theorem seti_val {d k v : D} {x i y : V} {st' : Sto} {Q : Hp → Prop} (R0 : Rel T K ρ st H) (hd : RelD T K ρ H d x) (hk : RelD T K ρ H k i) (hv : RelD T K ρ H v y) (h : setiV d k v st = some st') (q : ∀ ρ' H', Ext ρ H ρ' H' → Rel T K ρ' st' H' → Q H') : rSetL x i y H Q := by
  cases hd with
  | @ref n p hp =>
    cases g : st.get n with
    | none => simp [setiV, g] at h
    | some o =>
      cases o with
      | lst xs =>
        cases hk with
        | int j =>
          simp only [setiV, g, Option.map_eq_some_iff] at h
          obtain ⟨m, hm, rfl⟩ := h
          obtain ⟨vs, e, rs⟩ := R0.lst hp g
          refine ⟨p, vs, j, m, rfl, rfl, e, by rw [← rs.length]; exact hm, ?_⟩
          have hr : RelOb T K ρ H (.lst (xs.set m v)) (.lst (vs.set m y)) := .lst (rs.set hv m)
          exact q ρ _ (Ext.put (List.mem_of_getElem? hp) (R0.notbl (List.mem_of_getElem? hp))) (R0.put hp hr)
        | _ => simp [setiV, g] at h
      | _ => cases hk <;> simp [setiV, g] at h
  | _ => simp [setiV] at h
end
end Hr

/-! Loops. -/
namespace Hr
open PySem PySem.Spec PyProof.Rows L2
section
variable {T : Tb} {X : Cx} {W : WX} {K : PySem.W.Frag} {σ : St} {H H' : Hp} {ρ ρ' : List Addr} {st : Sto} {env : Env}
theorem stepI {ev : Env → Sto → R (List D × Lk)} {f : List D × Lk → Sto → SR} {D : Ends} (R0 : Rel T K ρ st H) (E0 : RelE T K ρ H env σ) (h : AnsS T K W ρ H ((ev env st).toI env f) D) :
    tI T K W ev σ H (fun J H1 => ∃ q st1 ρ1, Ext ρ H ρ1 H1 ∧ Rel T K ρ1 st1 H1 ∧ RelE T K ρ1 H1 env σ ∧ WalkOk T K J q.1 q.2 ρ1 H1 ∧ AnsS T K W ρ1 H1 (f q st1) D) := by
  refine ⟨ρ, env, st, R0, E0, ?_⟩
  cases e : ev env st with
  | ok q st1 =>
    rw [e] at h
    exact fun J ρ1 H1 X1 R1 wk => ⟨q, st1, ρ1, X1, R1, E0.ext R0 X1, wk, AnsS.ext X1 h⟩
  | exc c vs st1 => rw [e] at h; exact h σ ρ H Ext.refl E0
  | bad => rw [e] at h; exact h.elim
theorem sS_for {iter : Expr} {body : List Stmt} {tg : Expr} {t : Hr.T} {sl : List Nat} {mi : Env → Sto → R (List D × Lk)} {mb : Env → Sto → SR} {pos : Pos} (hp : PassesOwn (model X.prog X.w) X.A X.env X.xe) (hc : X.calm = true) (hi : PI X tg iter (tI T X.K W mi)) (hg : PG X tg (tG T X.K sl (asgT t))) (hb : PSs X body (tS T X.K W mb))
    (hs : ∀ x, foldedSetIterable iter X.env x = pure x) : PS X (.For tg iter body [] pos) (tS T X.K W fun env st => (mi env st).toI env fun q st1 => forL q.2 t mb q.1 env st1) := by
  refine PS.weak (ps_for hp hc hi hg hb hs) fun D σ H h => ?_
  obtain ⟨ρ, env, st, R0, E0, h⟩ := h
  obtain ⟨ρa, enva, sta, Ra, Ea, ha⟩ := stepI (f := fun q st1 => forL q.2 t mb q.1 env st1) R0 E0 h
  refine ⟨ρa, enva, sta, Ra, Ea, ?_⟩
  cases e : mi enva sta with
  | exc c vs st1 => rw [e] at ha; exact ha
  | bad => rw [e] at ha; exact ha
  | ok q0 st0 =>
    rw [e] at ha
    intro J ρ1 H1 X1 R1 wk
    obtain ⟨q, st1, ρ1, X1, R1, E1, wk, an⟩ := ha J ρ1 H1 X1 R1 wk
    refine ⟨fun i m σ' H' => i + m = q.1.length ∧ ∃ ρ' env' st', Ext ρ1 H1 ρ' H' ∧ Rel T X.K ρ' st' H' ∧ RelE T X.K ρ' H' env' σ' ∧ AnsS T X.K W ρ' H' (forL q.2 t mb (q.1.drop i) env' st') D, ⟨q.1.length, by simp, ρ1, env, st1, Ext.refl, R1, E1, by simpa using an⟩, ?_⟩
    rintro i m σ' H' ⟨hm, ρ', env', st', X2, R2, E2, an⟩
    by_cases hl : i = q.1.length
    · left
      subst hl
      rw [List.drop_length] at an
      simp only [forL] at an
      by_cases hs : q.2.stands st'
      · rw [if_pos hs] at an
        exact ⟨wk.stop ρ' H' st' X2.weak R2 hs, an σ' ρ' H' Ext.refl R2 E2⟩
      · rw [if_neg hs] at an; exact an.elim
    · right
      have hlt : i < q.1.length := by omega
      rw [List.drop_eq_getElem_cons hlt] at an
      simp only [forL] at an
      by_cases hs : q.2.stands st'
      · rw [if_pos hs] at an
        refine ⟨wk.go i ρ' H' st' X2.weak R2 hs hlt, fun σ'' H'' => ∃ ρ'' env'' st'', Ext ρ1 H1 ρ'' H'' ∧ Rel T X.K ρ'' st'' H'' ∧ RelE T X.K ρ'' H'' env'' σ'' ∧ AnsS T X.K W ρ'' H'' (forL q.2 t mb (q.1.drop (i + 1)) env'' st'') D, fun σ'' H'' n => ⟨m - 1, by omega, by omega, n⟩, fun x H'' y => ?_⟩
        obtain ⟨X3, R3, r3⟩ := wk.yld i q.1[i] ρ' H' st' x H'' X2.weak R2 hs (List.getElem?_eq_getElem hlt) y
        have an := AnsS.ext X3 an
        have E3 := E2.ext R2 X3
        cases ea : asgT t q.1[i] env' with
        | none => rw [ea] at an; exact an.elim
        | some env1 =>
          rw [ea] at an
          refine ⟨ρ', env', st', q.1[i], env1, R3, E3, r3, ea, fun σ4 ρ4 H4 _ X4 R4 E4 => ⟨ρ4, env1, st', R4, E4, ?_⟩⟩
          have an := AnsS.ext X4 an
          have X5 := (X2.trans X3).trans X4
          dsimp only at an
          cases eb : mb env1 st' with
          | nx env2 st2 =>
            rw [eb] at an
            exact fun σ5 ρ5 H5 Y R5 E5 => ⟨ρ5, env2, st2, X5.trans Y, R5, E5, AnsS.ext Y an⟩
          | ct env2 st2 =>
            rw [eb] at an
            exact fun σ5 ρ5 H5 Y R5 E5 => ⟨ρ5, env2, st2, X5.trans Y, R5, E5, AnsS.ext Y an⟩
          | bk env2 st2 => rw [eb] at an; exact an
          | rt d st2 => rw [eb] at an; exact an
          | exc c vs env2 st2 => rw [eb] at an; exact an
          | bad => rw [eb] at an; exact an
      · rw [if_neg hs] at an; exact an.elim
theorem sS_while {c : Expr} {body : List Stmt} {mc : Env → Sto → R D} {mb : Env → Sto → SR} {pos : Pos} (hp : PassesOwn (model X.prog X.w) X.A X.env X.xe) (hc : PT X c (tT T X.K W fun env st => truR (mc env st))) (hb : PSs X body (tS T X.K W mb)) :
    PS X (.While c body [] pos) (tS T X.K W (whl mc mb)) := by
  refine PS.weak (ps_while hp hc hb) fun D σ H h => ?_
  obtain ⟨ρ, env, st, R0, E0, h⟩ := h
  unfold whl at h
  by_cases hex : ∃ n, wlF mc mb n env st ≠ .bad
  · rw [dif_pos hex] at h
    generalize hex.choose = n at h
    refine ⟨fun m σ' H' => ∃ ρ' env' st', Rel T X.K ρ' st' H' ∧ RelE T X.K ρ' H' env' σ' ∧ AnsS T X.K W ρ' H' (wlF mc mb m env' st') D, ⟨n, ρ, env, st, R0, E0, h⟩, ?_⟩
    rintro m σ' H' ⟨ρ', env', st', R1, E1, an⟩
    cases m with
    | zero => exact an.elim
    | succ m =>
      simp only [wlF] at an
      refine (toS (RV := RB) (ev := fun env st => truR (mc env st)) (f := fun k st1 => match k with
        | true => (mb env' st1).turn (wlF mc mb m)
        | false => .nx env' st1) ?_ R1 E1 an).imp fun x H1 q => ?_
      · cases e : mc env' st' with
        | ok d st1 =>
          cases q : truB d st1 with
          | none => simp [truR, R.bind, R.to, ofO, e, q]
          | some k => cases k <;> simp [truR, R.bind, R.to, ofO, e, q]
        | exc c vs st1 => simp [truR, R.bind, R.to, e]
        | bad => simp [truR, R.bind, R.to, e]
      · obtain ⟨k, st1, ρ1, R2, E2, X1, rfl, an⟩ := q
        cases k with
        | false => exact an σ' ρ1 H1 Ext.refl R2 E2
        | true =>
          rw [if_pos rfl]
          refine ⟨fun σ'' H'' => ∃ ρ'' env'' st'', Rel T X.K ρ'' st'' H'' ∧ RelE T X.K ρ'' H'' env'' σ'' ∧ AnsS T X.K W ρ'' H'' (wlF mc mb m env'' st'') D, fun σ'' H'' n => ⟨m, Nat.lt_succ_self m, n⟩, ρ1, env', st1, R2, E2, ?_⟩
          dsimp only at an
          cases eb : mb env' st1 with
          | nx env2 st2 =>
            rw [eb] at an
            exact fun σ5 ρ5 H5 Y R5 E5 => ⟨ρ5, env2, st2, R5, E5, AnsS.ext Y an⟩
          | ct env2 st2 =>
            rw [eb] at an
            exact fun σ5 ρ5 H5 Y R5 E5 => ⟨ρ5, env2, st2, R5, E5, AnsS.ext Y an⟩
          | bk env2 st2 => rw [eb] at an; exact an
          | rt d st2 => rw [eb] at an; exact an
          | exc c vs env2 st2 => rw [eb] at an; exact an
          | bad => rw [eb] at an; exact an
  · rw [dif_neg hex] at h; exact h.elim
/-! ### a[i] = e -/
theorem sS_seti {a i e : Expr} {ma mi m : Env → Sto → R D} {pos tpos : Pos} (ha : PE X a (tE T X.K W ma)) (hi : PE X i (tE T X.K W mi)) (he : PE X e (tE T X.K W m)) (hst : PSet X rSetL)
    (hs : swapsWithSole [.Subscript a i tpos] e pos.line X.env = pure false) (hw : swappedStores [.Subscript a i tpos] e X.env = pure none) (h1 : (assignEach [.Subscript a i tpos] X.env).map (·.2) = [assign (.Subscript a i tpos) X.env])
    (hasg : ∀ v, assign (.Subscript a i tpos) X.env v = (do
      let ov ← holding [v] (eval a X.env)
      let iv ← holding [v, ov] (eval i X.env)
      standAt tpos
      holding [v, ov, iv] (setItem ov iv v)
      release [v, ov, iv] [])) :
    PS X (.Assign [.Subscript a i tpos] e pos) (tS T X.K W fun env st => (m env st).to env fun v st1 => (ma env st1).to env fun x st2 => (mi env st2).to env fun k st3 => stO (setiV x k v st3) env) := by
  refine PS.weak (ps_asg he (pg_sub ha hi hst hasg) hs hw h1) fun D σ H h => ?_
  obtain ⟨ρ, env, st, R0, E0, h⟩ := h
  refine (stepS (f := fun v st1 => (ma env st1).to env fun x st2 => (mi env st2).to env fun k st3 => stO (setiV x k v st3) env) R0 E0 h).imp fun v H1 q => ?_
  obtain ⟨d, st1, ρ1, R1, E1, X1, r1, an⟩ := q
  refine (stepS (f := fun x st2 => (mi env st2).to env fun k st3 => stO (setiV x k d st3) env) R1 E1 an).imp fun x H2 q => ?_
  obtain ⟨d2, st2, ρ2, R2, E2, X2, r2, an⟩ := q
  refine (stepS (f := fun k st3 => stO (setiV d2 k d st3) env) R2 E2 an).imp fun k H3 q => ?_
  obtain ⟨d3, st3, ρ3, R3, E3, X3, r3, an⟩ := q
  cases es : setiV d2 d3 d st3 with
  | none => rw [es] at an; exact an.elim
  | some st4 =>
    rw [es] at an
    exact seti_val R3 (r2.ext R2 X3) r3 ((r1.ext R1 X2).ext R2 X3) es fun ρ4 H4 X4 R4 => an σ ρ4 H4 X4 R4 (E3.ext R3 X4)
end
end Hr

/-! Globals, calls of defs, methods of lists, isinstance. -/
namespace Hr
open PySem PySem.Spec PyProof.Rows L2
/-! ### what a def promises -/
def AnsC (T : Tb) (K : PySem.W.Frag) (ρ : List Addr) (H : Hp) (r : R D) (Q : VK) : Prop := match r with
  | .ok d st' => ∀ v ρ' H', Ext ρ H ρ' H' → Rel T K ρ' st' H' → RelD T K ρ' H' d v → Q v H'
  | .exc c vs st' => False
  | .bad => False
/-- the promise: what C answers for that def; m: how many arguments -/
def spC (T : Tb) (K : PySem.W.Frag) (C : Calls) (m f : Nat) : Sp := fun vs H Q E => vs.length = m ∧ ∃ ρ st ds, Rel T K ρ st H ∧ RelDs T K ρ H ds vs ∧ AnsC T K ρ H (C (.fn f) ds st) Q
section
variable {T : Tb} {X : Cx} {W : WX} {G : Pg} {C : Calls} {σ : St} {H H' : Hp} {ρ ρ' : List Addr} {st : Sto} {env : Env}
/-- globals -/
theorem sE_glo {x : Str} {u : Value} {v : V} {d : D} {o : Option D} {pos : Pos} (hg : L2.Gl X x) (hm : X.mg x = some u) (hr : RelV v u) (e : o = some d) (r : ∀ ρ H, RelD T X.K ρ H d v) (hdb : (x == ("__debug__" : Str)) = false) :
    PE X (.Name x pos) (tE T X.K W fun _ st => ofO o st) := by
  subst e
  refine ⟨fun pins s σ H Q I h => ld_glob I hg hm ?_ hdb⟩
  obtain ⟨ρ, env, st, R0, E0, h⟩ := h
  exact ⟨v, H, I, hr, h.done R0 (r ρ H)⟩
/-- a def's name as a value -/
theorem sE_fnv {x : Str} {f : Nat} {pos : Pos} (hg : L2.Gl X x) (hm : X.mg x = some (.ref (T.fnA f))) (hdb : (x == ("__debug__" : Str)) = false) :
    PE X (.Name x pos) (tE T X.K W fun _ st => .ok (.fn f) st) := by
  refine ⟨fun pins s σ H Q I h => ld_glob I hg hm ?_ hdb⟩
  obtain ⟨ρ, env, st, R0, E0, h⟩ := h
  exact ⟨.ref (T.fnA f), H, I, rfl, h.done R0 (.fn f)⟩
structure DefA (T : Tb) (P : Program) (w : World) (K : PySem.W.Frag) (mg : Str → Option Value) (base : Heap) (C : Calls) (k f : Nat) (x : Str) (fd : FuncData) (ps : List Str) : Prop where
  gm : mg x = some (.ref (T.fnA f))
  ok : FnOk P w K mg base CX0 k (T.fnA f) fd ps (spC T K C ps.length f)
  kp : PySem.W.keepIn K (.ref (T.fnA f)) = true
  bd : Binds K fd ps []
  ar : ∀ ds st, ds.length ≠ ps.length → C (.fn f) ds st = .bad
abbrev DefAt (T : Tb) (X : Cx) (C : Calls) (k f : Nat) (x : Str) (fd : FuncData) (ps : List Str) : Prop := DefA T X.prog X.w X.K X.mg X.base C k f x fd ps
theorem ansC {r : R D} {Q : VK} (h : Ans T X.K (RelD T X.K) W ρ H σ r Q) : AnsC T X.K ρ H r Q := by
  cases r with
  | ok d st' => exact h
  | exc c vs st' => exact h
  | bad => exact h
theorem spC_of {m f : Nat} {ds : List D} {vs : List V} {Q : VK} {E : XK} (har : ∀ ds st, ds.length ≠ m → C (.fn f) ds st = .bad) (R1 : Rel T X.K ρ st H) (rs : RelDs T X.K ρ H ds vs) (h : Ans T X.K (RelD T X.K) W ρ H σ (C (.fn f) ds st) Q) : spC T X.K C m f vs H Q E := by
  refine ⟨?_, ρ, st, ds, R1, rs, ansC h⟩
  rw [← rs.length]
  exact Classical.byContradiction fun n => by rw [har ds st n] at h; exact h
theorem sE_call {x : Str} {f k : Nat} {fd : FuncData} {ps : List Str} {e : Expr} {es : List Expr} {ms : Env → Sto → R (List D)} {p pos : Pos} (A : DefAt T X C k f x fd ps) (hr : Room k X.A) (hg : L2.Gl X x) (ha : PA X (e :: es) (tA T X.K W ms)) (hdb : (x == ("__debug__" : Str)) = false)
    (he : starEach (e :: es) X.env = (false, eval e X.env) :: starEach es X.env) (hpl : (backTo pos (starEach es X.env)).any (·.1) = false) :
    PE X (.Call (.Name x p) (e :: es) [] pos) (tE T X.K W fun env st => (ms env st).bind fun vs st1 => C (.fn f) vs st1) := by
  refine PE.weak (pe_call (E := fun _ _ _ => False) (dvs := []) A.ok hr hg A.gm A.kp A.bd .nil (fun _ _ _ _ _ _ _ z => z.elim) ha hdb he hpl) fun σ H Q h => ?_
  obtain ⟨ρ, env, st, R0, E0, h⟩ := h
  refine (step R0 E0 h).imp fun vs H1 q => ?_
  obtain ⟨ds, st1, ρ1, R1, E1, X1, r1, q⟩ := q
  rw [List.append_nil]
  exact spC_of A.ar R1 r1 q
theorem sE_call0 {x : Str} {f k : Nat} {fd : FuncData} {ps : List Str} {p pos : Pos} (A : DefAt T X C k f x fd ps) (hr : Room k X.A) (hg : L2.Gl X x) (hdb : (x == ("__debug__" : Str)) = false) :
    PE X (.Call (.Name x p) [] [] pos) (tE T X.K W fun env st => (R.ok (α := List D) [] st).bind fun vs st1 => C (.fn f) vs st1) := by
  refine PE.weak (pe_call0 (E := fun _ _ _ => False) (dvs := []) A.ok hr hg A.gm A.kp A.bd .nil (fun _ _ _ _ _ _ _ z => z.elim) hdb) fun σ H Q h => ?_
  obtain ⟨ρ, env, st, R0, E0, h⟩ := h
  show spC T X.K C ps.length f ([] ++ []) H Q (fun _ _ _ => False)
  exact spC_of A.ar R0 .nil h
/-- a local that holds a def -/
theorem sE_callv {i k : Nat} {x : Str} {e : Expr} {es : List Expr} {ms : Env → Sto → R (List D)} {p pos : Pos} (A : ∀ d, (∃ f y fd ps, d = .fn f ∧ DefAt T X C k f y fd ps) ∨ ∀ ds st, C d ds st = .bad) (hr : Room k X.A) (hN : X.N[i]? = some x) (hv : Vis X.env.scope x) (ha : PA X (e :: es) (tA T X.K W ms))
    (hdb : (x == ("__debug__" : Str)) = false) (hcd : (x == ("__classdict__" : Str)) = false)
    (he : starEach (e :: es) X.env = (false, eval e X.env) :: starEach es X.env) (hpl : (backTo pos (starEach es X.env)).any (·.1) = false) :
    PE X (.Call (.Name x p) (e :: es) [] pos) (tE T X.K W fun env st => (match env[i]? with
    | some (some d) => (ms env st).bind fun vs st1 => C d vs st1
    | _ => .bad)) := by
  refine ⟨fun pins s σ H Q I h => ?_⟩
  obtain ⟨ρ, env, st, R0, E0, h⟩ := h
  dsimp only at h
  cases q : env[i]? with
  | none => rw [q] at h; exact h.elim
  | some o =>
    cases o with
    | none => rw [q] at h; exact h.elim
    | some d =>
      rw [q] at h
      dsimp only at h
      obtain ⟨v, hv', rd⟩ := E0.at_ i d q
      rcases A d with ⟨f, y, fd, ps, rfl, A⟩ | n
      · cases rd
        refine (pe_callL (E := fun _ _ _ => False) (dvs := []) A.ok hr hN hv A.kp A.bd .nil (fun _ _ _ _ _ _ _ z => z.elim) ha hdb hcd he hpl).run pins s σ H Q I ⟨hv', ?_⟩
        refine (step R0 E0 h).imp fun vs H1 q => ?_
        obtain ⟨ds, st1, ρ1, R1, E1, X1, r1, q⟩ := q
        rw [List.append_nil]
        exact spC_of A.ar R1 r1 q
      · exfalso
        cases e : ms env st with
        | ok ds st1 => rw [e] at h; simp only [R.bind, n] at h; exact h
        | exc c vs st1 => rw [e] at h; exact h
        | bad => rw [e] at h; exact h
/-! ### methods of lists -/
def BmOk (T : Tb) (X : Cx) (W : WX) (m : Bm) (id : String) : Prop := ∃ r, MtR X id r ∧ ∀ ρ H st σ d ds x vs Q, Rel T X.K ρ st H → RelD T X.K ρ H d x → RelDs T X.K ρ H ds vs → Ans T X.K (RelD T X.K) W ρ H σ (bmV m d ds st) Q → r x vs H Q
theorem bmTy_list {m : Bm} {d : D} {x : V} {K : PySem.W.Frag} (R0 : Rel T K ρ st H) (r : RelD T K ρ H d x) (h : bmTy m d st = true) : tyV K "list" x H := by
  cases r with
  | @ref n p hp =>
    cases e : st.get n with
    | none => cases m <;> simp [bmTy, e] at h
    | some o =>
      cases o with
      | lst xs =>
        obtain ⟨vs, g, rs⟩ := R0.lst hp e
        exact Or.inl ⟨rfl, _, SqL.of g⟩
      | _ => cases m <;> simp [bmTy, e] at h
  | _ => simp [bmTy] at h
theorem RelDs.nil_inv {K : PySem.W.Frag} {ds : List D} {vs : List V} (h : RelDs T K ρ H ds vs) (e : ds = []) : vs = [] := by subst e; cases h; rfl
theorem bm_append : BmOk T X W .append "list.append" := by
  refine ⟨rAppend, mt_append, fun ρ H st σ d ds x vs Q R0 rd rs a => ?_⟩
  cases rd with
  | @ref n p hp =>
    cases e : st.get n with
    | none => simp only [bmV, e] at a; exact a.elim
    | some o =>
      cases o with
      | lst xs =>
        cases rs with
        | nil => simp only [bmV, e] at a; exact a.elim
        | cons r1 t =>
          cases t with
          | nil =>
            simp only [bmV, e] at a
            obtain ⟨h1, a⟩ := grd_ok a
            obtain ⟨vs, g, rs⟩ := R0.lst hp e
            exact ⟨p, vs, _, rfl, rfl, g, by rw [← rs.length]; exact of_decide_eq_true h1, Ans.put a R0 hp (.lst (rs.append (.cons r1 .nil))) .non⟩
          | cons => simp only [bmV, e] at a; exact a.elim
      | _ => simp only [bmV, e] at a; exact a.elim
  | _ => exact a.elim
theorem bm_extend : BmOk T X W .extend "list.extend" := by
  refine ⟨rExtend, mt_extend, fun ρ H st σ d ds x vs Q R0 rd rs a => ?_⟩
  cases rd with
  | @ref n p hp =>
    cases e : st.get n with
    | none => simp only [bmV, e] at a; exact a.elim
    | some o =>
      cases o with
      | lst xs =>
        cases rs with
        | nil => simp only [bmV, e] at a; exact a.elim
        | cons r1 t =>
          cases t with
          | nil =>
            cases r1 with
            | @ref m q hq =>
              simp only [bmV, e] at a
              cases e2 : st.get m with
              | none => simp only [e2] at a; exact a.elim
              | some o2 =>
                cases o2 with
                | lst ys =>
                  simp only [e2] at a
                  obtain ⟨h1, a⟩ := grd_ok a
                  obtain ⟨vs, g, rs⟩ := R0.lst hp e
                  obtain ⟨ws, g2, rs2⟩ := R0.lst hq e2
                  exact ⟨p, q, vs, ws, rfl, rfl, g, g2, by rw [← rs.length, ← rs2.length]; exact of_decide_eq_true h1, Ans.put a R0 hp (.lst (rs.append rs2)) .non⟩
                | _ => simp only [e2] at a; exact a.elim
            | _ => simp only [bmV, e] at a; exact a.elim
          | cons => simp only [bmV, e] at a; exact a.elim
      | _ => simp only [bmV, e] at a; exact a.elim
  | _ => exact a.elim
theorem RelDs.dropLast {K : PySem.W.Frag} {xs : List D} {vs : List V} (h : RelDs T K ρ H xs vs) : RelDs T K ρ H xs.dropLast vs.dropLast := by
  rw [List.dropLast_eq_take, List.dropLast_eq_take, h.length]
  exact h.take _
theorem bm_pop : BmOk T X W .pop "list.pop" := by
  refine ⟨rPop, mt_pop, fun ρ H st σ d ds x vs Q R0 rd rs a => ?_⟩
  cases rd with
  | @ref n p hp =>
    cases e : st.get n with
    | none => simp only [bmV, e] at a; exact a.elim
    | some o =>
      cases o with
      | lst xs =>
        cases rs with
        | nil =>
          simp only [bmV, e] at a
          obtain ⟨vs, g, rs⟩ := R0.lst hp e
          cases e2 : xs[xs.length - 1]? with
          | none => simp only [e2] at a; exact a.elim
          | some y =>
            simp only [e2] at a
            obtain ⟨w, hw, rw'⟩ := rs.get e2
            have hw : vs[vs.length - 1]? = some w := by rw [← rs.length]; exact hw
            have X1 : Ext ρ H ρ (upd H p (.lst vs.dropLast)) := Ext.put (List.mem_of_getElem? hp) (R0.notbl (List.mem_of_getElem? hp))
            exact ⟨p, vs, w, rfl, rfl, g, hw, Ans.put a R0 hp (.lst rs.dropLast) (rw'.ext R0 X1)⟩
        | cons => simp only [bmV, e] at a; exact a.elim
      | _ => simp only [bmV, e] at a; exact a.elim
  | _ => exact a.elim
theorem sE_bm {m : Bm} {id : String} {o e : Expr} {es : List Expr} {name : Str} {mo : Env → Sto → R D} {ms : Env → Sto → R (List D)} {apos cpos : Pos} (hb : BmOk T X W m id) (slot : Slot "list" name id) (hty : typeOf (.builtin id) = pure (.type "method_descriptor")) (ho : PE X o (tE T X.K W mo)) (ha : PA X (e :: es) (tA T X.K W ms))
    (hbase : attributeBase o name X.env (eval o X.env) = eval o X.env)
    (hfew : ((backTo cpos (starEach (e :: es) X.env)).all (fun x => !x.1) && (backToKw cpos (keywordEach [] X.env)).all (fun x => x.1.isSome)
      && decide ((e :: es).length + ([] : List Keyword).length + (if ([] : List Keyword).isEmpty then 0 else 1) < 30)) = true)
    (hline : (apos.endLine == cpos.line) = true) (hs : starEach (e :: es) X.env = (false, eval e X.env) :: starEach es X.env) (hplain : (backTo cpos (starEach es X.env)).any (·.1) = false) :
    PE X (.Call (.Attribute o name apos) (e :: es) [] cpos) (tE T X.K W fun env st => (mo env st).bind fun x st1 => grd (bmTy m x st1) ((ms env st1).bind fun vs st2 => bmV m x vs st2)) := by
  obtain ⟨r, hm, hr⟩ := hb
  refine PE.weak (pe_bm F.plainAttrs_list slot hty hm ho ha hbase hfew hline hs hplain) fun σ H Q h => ?_
  obtain ⟨ρ, env, st, R0, E0, h⟩ := h
  refine (step R0 E0 h).imp fun x H1 q => ?_
  obtain ⟨d, st1, ρ1, R1, E1, X1, r1, q⟩ := q
  obtain ⟨h1, q⟩ := grd_ok q
  refine ⟨bmTy_list R1 r1 h1, (step R1 E1 q).imp fun vs H2 q => ?_⟩
  obtain ⟨ds, st2, ρ2, R2, E2, X2, r2, q⟩ := q
  exact hr ρ2 H2 st2 σ d ds x vs Q R2 (r1.ext R1 X2) r2 q
theorem sE_bm0 {m : Bm} {id : String} {o : Expr} {name : Str} {mo : Env → Sto → R D} {apos cpos : Pos} (hb : BmOk T X W m id) (slot : Slot "list" name id) (hty : typeOf (.builtin id) = pure (.type "method_descriptor")) (ho : PE X o (tE T X.K W mo))
    (hbase : attributeBase o name X.env (eval o X.env) = eval o X.env) (hline : (apos.endLine == cpos.line) = true) :
    PE X (.Call (.Attribute o name apos) [] [] cpos) (tE T X.K W fun env st => (mo env st).bind fun x st1 => grd (bmTy m x st1) ((R.ok (α := List D) [] st1).bind fun vs st2 => bmV m x vs st2)) := by
  obtain ⟨r, hm, hr⟩ := hb
  refine PE.weak (pe_bm0 F.plainAttrs_list slot hty hm ho hbase hline) fun σ H Q h => ?_
  obtain ⟨ρ, env, st, R0, E0, h⟩ := h
  refine (step R0 E0 h).imp fun x H1 q => ?_
  obtain ⟨d, st1, ρ1, R1, E1, X1, r1, q⟩ := q
  obtain ⟨h1, q⟩ := grd_ok q
  exact ⟨bmTy_list R1 r1 h1, hr ρ1 H1 st1 σ d [] x [] Q R1 r1 .nil q⟩
/-! ### isinstance -/
def tyS : Ty → Option String
  | .int => some "int"
  | .bool => some "bool"
  | .str => some "str"
  | .tuple => some "tuple"
  | .list => some "list"
  | .dict => some "dict"
  | .own _ => none
theorem TyX.tup {K : PySem.W.Frag} {a : Addr} {vs : List V} (h : SqT K H a vs) : TyX K H (.ref a) (.type "tuple") := by
  rcases h with (e | ⟨o, e⟩) | ⟨o, its, n, e, c, _⟩
  · exact .base (.tup e)
  · exact .fTuple e
  · exact .kTuple e c
theorem isTy_ok {K : PySem.W.Frag} {d : D} {x : V} (R0 : Rel T K ρ st H) (r : RelD T K ρ H d x) : (∃ m, TyX K H x (.type m) ∧ ∀ t n b, tyS t = some n → isTy G d st t = some b → kitB m n = some b) ∨ ∀ t, isTy G d st t = none := by
  cases r with
  | non => exact .inl ⟨_, .base .non, fun t n b ht h => by cases t <;> simp [tyS, isTy] at ht h <;> subst ht <;> subst h <;> decide +kernel⟩
  | bl y => exact .inl ⟨_, .base (.bl y), fun t n b ht h => by cases t <;> simp [tyS, isTy] at ht h <;> subst ht <;> subst h <;> decide +kernel⟩
  | int y => exact .inl ⟨_, .base (.int y), fun t n b ht h => by cases t <;> simp [tyS, isTy] at ht h <;> subst ht <;> subst h <;> decide +kernel⟩
  | str y => exact .inl ⟨_, .base (.str y), fun t n b ht h => by cases t <;> simp [tyS, isTy] at ht h <;> subst ht <;> subst h <;> decide +kernel⟩
  | tup sq rs => exact .inl ⟨_, TyX.tup sq, fun t n b ht h => by cases t <;> simp [tyS, isTy] at ht h <;> subst ht <;> subst h <;> decide +kernel⟩
  | fn i => exact .inr fun t => by simp [isTy]
  | fl sq rs => exact .inr fun t => by simp [isTy]
  | @ref m p hp =>
    cases e : st.get m with
    | none => exact .inr fun t => by cases t <;> simp [isTy, e]
    | some o =>
      cases o with
      | lst xs =>
        obtain ⟨vs, g, rs⟩ := R0.lst hp e
        exact .inl ⟨_, .base (.lst g), fun t n b ht h => by cases t <;> simp [tyS, isTy, e] at ht h <;> subst ht <;> subst h <;> decide +kernel⟩
      | dic kvs =>
        obtain ⟨a', x', e1, e2, r⟩ := R0.obj m _ e
        rw [hp] at e1; cases e1
        cases r with
        | dK _ => exact .inl ⟨_, .base (.dK e2), fun t n b ht h => by cases t <;> simp [tyS, isTy, e] at ht h <;> subst ht <;> subst h <;> decide +kernel⟩
        | dT _ => exact .inl ⟨_, .base (.dT e2), fun t n b ht h => by cases t <;> simp [tyS, isTy, e] at ht h <;> subst ht <;> subst h <;> decide +kernel⟩
      | _ => exact .inr fun t => by cases t <;> simp [isTy, e]
theorem isTys_ok {K : PySem.W.Frag} {d : D} {m : String} (hm : ∀ t n b, tyS t = some n → isTy G d st t = some b → kitB m n = some b) : ∀ {ts : List Ty} {ns : List String} {b : Bool}, ts.map tyS = ns.map some → isTys G d st ts = some b →
    PySem.W.kitAny K (.type m) (ns.map Value.type) = some b
  | [], [], b, _, h => by simp [isTys] at h; subst h; rfl
  | [], _ :: _, _, hm', _ => by simp at hm'
  | _ :: _, [], _, hm', _ => by simp at hm'
  | t :: ts, n :: ns, b, hm', h => by
    simp only [List.map_cons, List.cons.injEq] at hm'
    obtain ⟨hn1, hm'⟩ := hm'
    simp only [isTys] at h
    cases e : isTy G d st t with
    | none => rw [e] at h; cases h
    | some k =>
      rw [e] at h
      have hk := hm t n k hn1 e
      cases k with
      | true =>
        simp only [Option.some.injEq] at h
        subst h
        exact kitAny_cons (kit_ty hk) (fun z => by cases z) (fun _ => rfl)
      | false => exact kitAny_cons (kit_ty hk) (fun _ => isTys_ok hm hm' h) (fun z => by cases z)
theorem pe_tyN {x : Str} {n : String} {pos : Pos} (hg : L2.Gl X x) (hm : X.mg x = none) (hv : bootBuiltins x = some (.type n)) (hn : x ≠ "__name__") (hdb : (x == ("__debug__" : Str)) = false) : PE X (.Name x pos) (tC (.ty n)) :=
  ⟨fun pins s σ H Q I h => ld_blt I hg hm hv ⟨.ty n, H, I, rfl, h⟩ hn hdb⟩
def tTys (ns : List String) : TA := fun σ H Q => Q (ns.map V.ty) H
theorem pa_tyNil : PA X [] (tTys []) := PA.weak pa_nil fun σ H Q h => h
theorem pa_tyCons {e : Expr} {es : List Expr} {n : String} {ns : List String} (he : PE X e (tC (.ty n))) (hes : PA X es (tTys ns)) (hs : starEach (e :: es) X.env = (false, eval e X.env) :: starEach es X.env) : PA X (e :: es) (tTys (n :: ns)) :=
  PA.weak (pa_cons he hes hs) fun σ H Q h => h
theorem clsV_tys : ∀ ns : List String, Paired ClsV (ns.map V.ty) (ns.map Value.type)
  | [] => .nil
  | n :: ns => .cons (.ty n) (clsV_tys ns)
theorem isi_done {d : D} {x : V} {ts : List Ty} {Q : VK} (R1 : Rel T X.K ρ st H) (r1 : RelD T X.K ρ H d x) (hne : ts ≠ []) (q : Ans T X.K (RelD T X.K) W ρ H σ ((ofO (isTys G d st ts) st).bind fun k st2 => .ok (.bl k) st2) Q) :
    ∃ m b, TyX X.K H x (.type m) ∧ (∀ t n b, tyS t = some n → isTy G d st t = some b → kitB m n = some b) ∧ isTys G d st ts = some b ∧ Q (.bl b) H := by
  cases e : isTys G d st ts with
  | none => rw [e] at q; exact q.elim
  | some b =>
    rw [e] at q
    rcases isTy_ok (G := G) R1 r1 with ⟨m, hm, hh⟩ | n
    · exact ⟨m, b, hm, hh, rfl, Ans.done q R1 (.bl b)⟩
    · exfalso
      cases ts with
      | nil => exact hne rfl
      | cons t ts => simp [isTys, n] at e
theorem sE_isi1 {a ty : Expr} {t : Ty} {n : String} {m : Env → Sto → R D} {p pos : Pos} (ht : tyS t = some n) (ha : PE X a (tE T X.K W m)) (hty : PE X ty (tC (.ty n))) (hg : L2.Gl X "isinstance") (hm : X.mg "isinstance" = none)
    (he : starEach [a, ty] X.env = (false, eval a X.env) :: starEach [ty] X.env) (he2 : starEach [ty] X.env = (false, eval ty X.env) :: starEach [] X.env) :
    PE X (.Call (.Name "isinstance" p) [a, ty] [] pos) (tE T X.K W fun env st => (m env st).bind fun x st1 => (ofO (isTys G x st1 [t]) st1).bind fun k st2 => .ok (.bl k) st2) := by
  refine PE.weak (pe_callB call_isi hg hm boot_isinstance (pa_cons ha (pa_cons hty pa_nil he2) he) (by decide) (by decide) he (by rw [he2]; rfl)) fun σ H Q h => ?_
  obtain ⟨ρ, env, st, R0, E0, h⟩ := h
  refine (step R0 E0 h).imp fun x H1 q => ?_
  obtain ⟨d, st1, ρ1, R1, E1, X1, r1, q⟩ := q
  obtain ⟨m, b, hm, hh, hb, q⟩ := isi_done R1 r1 (by simp) q
  have hk := isTys_ok (K := X.K) (ns := [n]) hh (by simp [ht]) hb
  refine ⟨x, .ty n, .type m, .type n, b, rfl, .ty n, hm, ?_, q⟩
  simp only [isTys] at hb
  cases e : isTy G d st1 t with
  | none => rw [e] at hb; cases hb
  | some k =>
    rw [e] at hb
    have := hh t n k ht e
    cases k with
    | true => simp only [Option.some.injEq] at hb; subst hb; exact this
    | false => simp only [Option.some.injEq] at hb; subst hb; exact this
theorem sE_isiT {a : Expr} {tys : List Expr} {ts : List Ty} {ns : List String} {m : Env → Sto → R D} {p pos tpos : Pos} {kk : Nat} (ht : ts.map tyS = ns.map some) (hne : ts ≠ []) (hl : ns.length ≤ 100) (ha : PE X a (tE T X.K W m)) (hty : PA X tys (tTys ns)) (hg : L2.Gl X "isinstance") (hm : X.mg "isinstance" = none)
    (he : starEach [a, .Tuple tys kk tpos] X.env = (false, eval a X.env) :: starEach [.Tuple tys kk tpos] X.env) (he2 : starEach [.Tuple tys kk tpos] X.env = (false, eval (.Tuple tys kk tpos) X.env) :: starEach [] X.env) :
    PE X (.Call (.Name "isinstance" p) [a, .Tuple tys kk tpos] [] pos) (tE T X.K W fun env st => (m env st).bind fun x st1 => (ofO (isTys G x st1 ts) st1).bind fun k st2 => .ok (.bl k) st2) := by
  refine PE.weak (pe_callB call_isiT hg hm boot_isinstance (pa_cons ha (pa_cons (pe_tup hty) pa_nil he2) he) (by decide) (by decide) he (by rw [he2]; rfl)) fun σ H Q h => ?_
  obtain ⟨ρ, env, st, R0, E0, h⟩ := h
  refine (step R0 E0 h).imp fun x H1 q => ?_
  obtain ⟨d, st1, ρ1, R1, E1, X1, r1, q⟩ := q
  refine ⟨by rw [List.length_map]; exact Nat.le_trans hl (by decide), fun p hp => ?_⟩
  have X2 := Ext.laid (o := .tup (ns.map V.ty)) R1 hp
  obtain ⟨m, b, hm, hh, hb, q⟩ := isi_done (R1.laid hp) (r1.ext R1 X2) hne (Ans.ext X2 q)
  exact ⟨x, p, ns.map V.ty, .type m, ns.map Value.type, b, rfl, upd_same, clsV_tys ns, hm, isTys_ok (K := X.K) hh ht hb, q⟩
end
end Hr

/-! List comprehensions. -/
namespace Hr
open PySem PySem.Spec PyProof.Rows L2
section
variable {T : Tb} {X : Cx} {K : PySem.W.Frag} {W W0 W1 : WX} {G : Pg} {σ : St} {H H' : Hp} {ρ ρ' : List Addr} {st : Sto} {env : Env} {A : Addr} {acc acc' : List V}
/-! ### a list off the store -/
theorem SqT.off {a : Addr} {vs : List V} (hA : H A = some (.lst acc)) (h : SqT K H a vs) : SqT K (upd H A (.lst acc')) a vs := by
  have ne : ∀ o, H a = some o → (∀ l, o ≠ .lst l) → a ≠ A := fun o e n z => by rw [z, hA] at e; cases e; exact n _ rfl
  rcases h with (h | ⟨o, h⟩) | h
  · exact .inl (.inl (by rw [upd_ne (ne _ h (by simp))]; exact h))
  · exact .inl (.inr ⟨o, by rw [upd_ne (ne _ h (by simp))]; exact h⟩)
  · exact .inr h
theorem FrL.off {a : Addr} {vs : List V} (hA : H A = some (.lst acc)) (h : FrL K H a vs) : FrL K (upd H A (.lst acc')) a vs := by
  have ne : ∀ o, H a = some o → (∀ l, o ≠ .lst l) → a ≠ A := fun o e n z => by rw [z, hA] at e; cases e; exact n _ rfl
  rcases h with ⟨o, h⟩ | h
  · exact .inl ⟨o, by rw [upd_ne (ne _ h (by simp))]; exact h⟩
  · exact .inr h
mutual
theorem RelD.off (hA : H A = some (.lst acc)) : ∀ {d : D} {v : V}, RelD T K ρ H d v → RelD T K ρ (upd H A (.lst acc')) d v
  | _, _, .non => .non
  | _, _, .bl b => .bl b
  | _, _, .int b => .int b
  | _, _, .str b => .str b
  | _, _, .tup s r => .tup (SqT.off hA s) (RelDs.off hA r)
  | _, _, .ref h => .ref h
  | _, _, .fl s r => .fl (FrL.off hA s) (RelDs.off hA r)
  | _, _, .fn i => .fn i
theorem RelDs.off (hA : H A = some (.lst acc)) : ∀ {d : List D} {v : List V}, RelDs T K ρ H d v → RelDs T K ρ (upd H A (.lst acc')) d v
  | _, _, .nil => .nil
  | _, _, .cons a b => .cons (RelD.off hA a) (RelDs.off hA b)
end
theorem RelFs.off (hA : H A = some (.lst acc)) {d : List (Str × D)} {v : List (Str × V)} (h : RelFs T K ρ H d v) : RelFs T K ρ (upd H A (.lst acc')) d v := by
  induction h with
  | nil => exact .nil
  | cons r _ ih => exact .cons (r.off hA) ih
theorem RelKs.off (hA : H A = some (.lst acc)) {d : List (D × D)} {v : List (Key × V)} (h : RelKs T K ρ H d v) : RelKs T K ρ (upd H A (.lst acc')) d v := by
  induction h with
  | nil => exact .nil
  | cons k r _ ih => exact .cons k (r.off hA) ih
theorem RelTs.off (hA : H A = some (.lst acc)) {d : List (D × D)} {v : List (List Key × V)} (h : RelTs T K ρ H d v) : RelTs T K ρ (upd H A (.lst acc')) d v := by
  induction h with
  | nil => exact .nil
  | cons k r _ ih => exact .cons k (r.off hA) ih
theorem RelOb.off (hA : H A = some (.lst acc)) {o : Ob} {h : HO} (r : RelOb T K ρ H o h) : RelOb T K ρ (upd H A (.lst acc')) o h := by
  cases r with
  | lst r => exact .lst (r.off hA)
  | ins r => exact .ins (r.off hA)
  | dK r => exact .dK (r.off hA)
  | dT r => exact .dT (r.off hA)
  | lK r => exact .lK (r.off hA)
  | lT r => exact .lT (r.off hA)
theorem Rel.off (hA : H A = some (.lst acc)) (hn : A ∉ ρ) (R0 : Rel T K ρ st H) : Rel T K ρ st (upd H A (.lst acc')) := by
  refine ⟨R0.len, R0.nd, fun n o e => ?_⟩
  obtain ⟨a, h, e1, e2, r⟩ := R0.obj n o e
  exact ⟨a, h, e1, by rw [upd_ne (fun z => hn (by rw [← z]; exact List.mem_of_getElem? e1))]; exact e2, r.off hA⟩
theorem RelE.off (hA : H A = some (.lst acc)) (E0 : RelE T K ρ H env σ) : RelE T K ρ (upd H A (.lst acc')) env σ :=
  ⟨E0.len, fun i d e => let ⟨v, h, r⟩ := E0.at_ i d e; ⟨v, h, r.off hA⟩⟩
theorem Ext.off {H1 : Hp} {ρ1 : List Addr} {o : HO} (x : Ext ρ1 H1 ρ H) (n : H1 A = none) : Ext ρ1 H1 ρ (upd H A o) := by
  have ne : ∀ a u, H1 a = some u → a ≠ A := fun a u e z => by rw [z, n] at e; cases e
  exact ⟨x.pre, fun a u e h1 h2 => by rw [upd_ne (ne a u e)]; exact x.keep a u e h1 h2, fun a ps e => by
    obtain ⟨more, h⟩ := x.tbl a ps e
    exact ⟨more, by rw [upd_ne (ne a _ e)]; exact h⟩, x.new⟩
theorem ext_none {H1 : Hp} {ρ1 : List Addr} {st1 : Sto} (R0 : Rel T K ρ st H) (x : Ext ρ H ρ1 H1) (R1 : Rel T K ρ1 st1 H1) (n : H1 A = none) : H A = none := by
  cases e : H A with
  | none => rfl
  | some o =>
    exfalso
    by_cases m : A ∈ ρ
    · obtain ⟨t, ht⟩ := x.pre
      obtain ⟨_, _, u, _, _, e2, _⟩ := R1.at (a := A) (by rw [ht]; exact List.mem_append_left _ m)
      rw [n] at e2; cases e2
    · by_cases z : ∃ ps, o = .tbl ps
      · obtain ⟨ps, rfl⟩ := z
        obtain ⟨more, e2⟩ := x.tbl A ps e
        rw [n] at e2; cases e2
      · have e2 := x.keep A o e m (fun ps q => z ⟨ps, q⟩)
        rw [n] at e2; cases e2
/-- the list off the store as later evaluation leaves it -/
theorem off_keeps {ρ2 : List Addr} {H2 : Hp} (hA : H A = some (.lst acc)) (hn : A ∉ ρ) (x : Ext ρ H ρ2 H2) : H2 A = some (.lst acc) ∧ A ∉ ρ2 :=
  ⟨x.keep A _ hA hn (fun _ z => by cases z), fun m => by
    have := x.new A m hn
    rw [hA] at this; cases this⟩
mutual
theorem RelD.more (t : List Addr) : ∀ {d : D} {v : V}, RelD T K ρ H d v → RelD T K (ρ ++ t) H d v
  | _, _, .non => .non
  | _, _, .bl b => .bl b
  | _, _, .int b => .int b
  | _, _, .str b => .str b
  | _, _, .tup s r => .tup s (RelDs.more t r)
  | _, _, .ref h => .ref (by rw [List.getElem?_append_left (List.getElem?_eq_some_iff.mp h).1]; exact h)
  | _, _, .fl s r => .fl s (RelDs.more t r)
  | _, _, .fn i => .fn i
theorem RelDs.more (t : List Addr) : ∀ {d : List D} {v : List V}, RelDs T K ρ H d v → RelDs T K (ρ ++ t) H d v
  | _, _, .nil => .nil
  | _, _, .cons a b => .cons (RelD.more t a) (RelDs.more t b)
end
theorem RelFs.more (t : List Addr) {d : List (Str × D)} {v : List (Str × V)} (h : RelFs T K ρ H d v) : RelFs T K (ρ ++ t) H d v := by
  induction h with
  | nil => exact .nil
  | cons r _ ih => exact .cons (r.more t) ih
theorem RelKs.more (t : List Addr) {d : List (D × D)} {v : List (Key × V)} (h : RelKs T K ρ H d v) : RelKs T K (ρ ++ t) H d v := by
  induction h with
  | nil => exact .nil
  | cons k r _ ih => exact .cons k (r.more t) ih
theorem RelTs.more (t : List Addr) {d : List (D × D)} {v : List (List Key × V)} (h : RelTs T K ρ H d v) : RelTs T K (ρ ++ t) H d v := by
  induction h with
  | nil => exact .nil
  | cons k r _ ih => exact .cons k (r.more t) ih
theorem RelOb.more (t : List Addr) {o : Ob} {h : HO} (r : RelOb T K ρ H o h) : RelOb T K (ρ ++ t) H o h := by
  cases r with
  | lst r => exact .lst (r.more t)
  | ins r => exact .ins (r.more t)
  | dK r => exact .dK (r.more t)
  | dT r => exact .dT (r.more t)
  | lK r => exact .lK (r.more t)
  | lT r => exact .lT (r.more t)
/-- the list becomes the store's -/
theorem Rel.took {ds : List D} (hA : H A = some (.lst acc)) (hn : A ∉ ρ) (R0 : Rel T K ρ st H) (r : RelDs T K ρ H ds acc) : Rel T K (ρ ++ [A]) (st.new (.lst ds)) H := by
  refine ⟨by rw [Sto.len_new, List.length_append, R0.len]; rfl, List.nodup_append.mpr ⟨R0.nd, by simp, fun a ha b hb e => hn (by rw [List.mem_singleton.mp hb] at e; rw [← e]; exact ha)⟩, fun n u e => ?_⟩
  rw [Sto.get_new] at e
  split at e
  · next q =>
    subst q; cases e
    refine ⟨A, .lst acc, ?_, hA, .lst (r.more [A])⟩
    rw [List.getElem?_append_right (by rw [R0.len]; exact Nat.le_refl _), R0.len]; simp
  · obtain ⟨a, x, h1, h2, h3⟩ := R0.obj n u e
    exact ⟨a, x, by rw [List.getElem?_append_left (List.getElem?_eq_some_iff.mp h1).1]; exact h1, h2, h3.more [A]⟩
theorem Ext.took {H1 : Hp} {ρ1 : List Addr} (x : Ext ρ1 H1 ρ H) (n : H1 A = none) : Ext ρ1 H1 (ρ ++ [A]) H := by
  obtain ⟨t, e⟩ := x.pre
  refine ⟨⟨t ++ [A], by rw [e]; simp⟩, x.keep, x.tbl, fun a m h => ?_⟩
  rcases List.mem_append.mp m with m | m
  · exact x.new a m h
  · rw [List.mem_singleton.mp m]; exact n
theorem ref_took (R0 : Rel T K ρ st H) : RelD T K (ρ ++ [A]) H' (.ref st.len) (.ref A) := .ref (by rw [List.getElem?_append_right (by rw [R0.len]; exact Nat.le_refl _), R0.len]; simp)
/-! ### the clause's tests -/
theorem sTs_nil : PTs X [] (tT T X.K W fun _ st => .ok true st) := ⟨fun pins s σ H Q I h => pts_nil.run pins s σ H Q I (by
  obtain ⟨ρ, env, st, R0, E0, h⟩ := h
  exact h.done R0 rfl)⟩
theorem sTs_one {c : Expr} {m : Env → Sto → R Bool} (h : PT X c (tT T X.K W m)) : PTs X [c] (tT T X.K W fun env st => (m env st).bind fun k st1 => (match k with
    | true => (R.ok true st1 : R Bool)
    | false => .ok false st1)) := ⟨fun pins s σ H Q I q => (pts_one h).run pins s σ H Q I (by
  obtain ⟨ρ, env, st, R0, E0, q⟩ := q
  refine ⟨ρ, env, st, R0, E0, ?_⟩
  dsimp only at q
  cases e : m env st with
  | ok k st1 => rw [e] at q; cases k <;> exact q
  | exc c vs st1 => rw [e] at q; exact q
  | bad => rw [e] at q; exact q)⟩
/-- the new list's end -/
def lcEnd (vs : List D) (st1 : Sto) : R D := grd (decide (vs.length ≤ sizeLine)) (.ok (.ref st1.len) (st1.new (.lst vs)))
/-- what is to come when ds stand and xs are left -/
def lcRest (r : R (List D)) (ds : List D) (fin : List D → Sto → Prop) : Prop := match r with
  | .ok zs st => fin (ds ++ zs) st
  | _ => False
theorem lcRest_bind {α : Type} {r : R α} {f : α → Sto → R (List D)} {ds : List D} {fin : List D → Sto → Prop} (h : lcRest (r.bind f) ds fin) : ∃ a st', r = .ok a st' ∧ lcRest (f a st') ds fin := by
  cases r with
  | ok a st' => exact ⟨a, st', rfl, h⟩
  | exc c vs st' => exact h.elim
  | bad => exact h.elim
/-- the reading of a comprehension: fin what is wanted of the items and the store -/
theorem lc_read {t : Hr.T} {sl own : List Nat} {mi : Env → Sto → R (List D × Lk)} {mc : Env → Sto → R Bool} {me : Env → Sto → R D} {Q : VK} {fin : List D → Sto → Prop} (hsl : ∀ i ∈ sl, i ∈ own) (R0 : Rel T K ρ st H) (E0 : RelE T K ρ H env σ)
    (h : lcRest ((mi env st).bind fun q st1 => cmpL q.2 own t mc (fun env st => oneL (me env st)) env q.1 st1) [] fin) (hz : ∀ vs st, fin vs st → vs.length ≤ sizeLine)
    (hQ : ∀ vs st' ρ' H' A acc, fin vs st' → Ext ρ H ρ' H' → H A = none → Rel T K ρ' st' H' → H' A = some (.lst acc) → A ∉ ρ' → RelDs T K ρ' H' vs acc → Q (.ref A) H') :
    tLc (tI T K W mi) (tG T K sl (asgT t)) (tT T K W0 mc) (tE T K W1 me) own σ H Q := by
  obtain ⟨q, st1, e1, h⟩ := lcRest_bind h
  refine ⟨ρ, env, st, R0, E0, ?_⟩
  rw [e1]
  intro J ρ1 H1 X1 R1 wk A hA
  have E1 := E0.ext R0 X1
  have hA0 : H A = none := ext_none R0 X1 R1 hA
  have nA : A ∉ ρ1 := fun m => by
    obtain ⟨n, o, x, _, _, e, _⟩ := R1.at m
    rw [hA] at e; cases e
  refine ⟨fun i m H' => i + m = q.1.length ∧ ∃ ρ' st' ds acc, Ext ρ1 H1 ρ' H' ∧ Rel T K ρ' st' H' ∧ H' A = some (.lst acc) ∧ A ∉ ρ' ∧ RelDs T K ρ' H' ds acc ∧ RelE T K ρ' H' env σ ∧ lcRest (cmpL q.2 own t mc (fun env st => oneL (me env st)) env (q.1.drop i) st') ds fin,
    ⟨q.1.length, by simp, ρ1, st1, [], [], Ext.refl.off hA, R1.laid hA, upd_same, nA, .nil, E1.ext R1 (Ext.laid R1 hA), by simpa using h⟩, ?_⟩
  rintro i m H' ⟨hm, ρ', st', ds, acc, X2, R2, gA, nA2, rs, E2, an⟩
  by_cases hl : i = q.1.length
  · left
    subst hl
    rw [List.drop_length] at an
    simp only [cmpL] at an
    by_cases hs : q.2.stands st'
    · rw [if_pos hs] at an
      have an : fin (ds ++ []) st' := an
      rw [List.append_nil] at an
      exact ⟨wk.stop ρ' H' st' X2.weak R2 hs, hQ ds st' ρ' H' A acc an (X1.trans X2) hA0 R2 gA nA2 rs⟩
    · rw [if_neg hs] at an; exact an.elim
  · right
    have hlt : i < q.1.length := by omega
    rw [List.drop_eq_getElem_cons hlt] at an
    simp only [cmpL] at an
    by_cases hs : q.2.stands st'
    · rw [if_pos hs] at an
      refine ⟨wk.go i ρ' H' st' X2.weak R2 hs hlt, fun H'' => ∃ ρ'' st'' ds'' acc'', Ext ρ1 H1 ρ'' H'' ∧ Rel T K ρ'' st'' H'' ∧ H'' A = some (.lst acc'') ∧ A ∉ ρ'' ∧ RelDs T K ρ'' H'' ds'' acc'' ∧ RelE T K ρ'' H'' env σ ∧ lcRest (cmpL q.2 own t mc (fun env st => oneL (me env st)) env (q.1.drop (i + 1)) st'') ds'' fin,
        fun H'' n => ⟨m - 1, by omega, by omega, n⟩, fun x H'' y => ?_⟩
      obtain ⟨X3, R3, r3⟩ := wk.yld i q.1[i] ρ' H' st' x H'' X2.weak R2 hs (List.getElem?_eq_getElem hlt) y
      cases ea : asgT t q.1[i] (wipe env own) with
      | none => rw [ea] at an; exact an.elim
      | some env1 =>
        rw [ea] at an
        dsimp only at an
        refine ⟨ρ', wipe env own, st', q.1[i], env1, R3, (E2.ext R2 X3).wipe own, r3, ea, fun σ4 ρ4 H4 S4 X4 R4 E4 => ⟨(S4.wipe hsl).trans wipe_wipe, ρ4, env1, st', R4, E4, ?_⟩⟩
        obtain ⟨b, st5, e5, an⟩ := lcRest_bind an
        rw [e5]
        intro b' ρ5 H5 X5 R5 eb
        obtain rfl : b = b' := eb
        have X25 : Ext ρ' H' ρ5 H5 := (X3.trans X4).trans X5
        obtain ⟨gA5, nA5⟩ := off_keeps gA nA2 X25
        have rs5 := rs.ext R2 X25
        have E5 := E4.ext R4 X5
        cases b with
        | false => exact ⟨ρ5, st5, ds, acc, X2.trans X25, R5, gA5, nA5, rs5, E2.ext R2 X25, an⟩
        | true =>
          rw [if_pos rfl]
          dsimp only at an
          refine ⟨ρ5, env1, st5, R5, E5, ?_⟩
          cases e6 : me env1 st5 with
          | exc c vs s => rw [e6] at an; exact an.elim
          | bad => rw [e6] at an; exact an.elim
          | ok y st6 =>
            rw [e6] at an
            intro v ρ6 H6 X6 R6 r6
            obtain ⟨zs, st7, e7, an⟩ := lcRest_bind (show lcRest ((cmpL q.2 own t mc (fun env st => oneL (me env st)) env (q.1.drop (i + 1)) st6).bind fun zs st3 => .ok ([y] ++ zs) st3) ds fin from an)
            have an : fin (ds ++ ([y] ++ zs)) st7 := an
            obtain ⟨gA6, nA6⟩ := off_keeps gA5 nA5 X6
            have rs6 := rs5.ext R5 X6
            refine ⟨acc, gA6, ?_, ρ6, st6, ds ++ [y], acc ++ [v], (((X2.trans X25).trans X6).off hA), R6.off gA6 nA6, upd_same, nA6, (rs6.append (.cons r6 .nil)).off gA6, ((E2.ext R2 X25).ext R5 X6).off gA6, ?_⟩
            · have := hz _ _ an
              rw [← rs.length]
              simp at this; omega
            · rw [e7]
              show fin (ds ++ [y] ++ zs) st7
              simpa using an
    · rw [if_neg hs] at an; exact an.elim
end
end Hr

/-! List comprehensions of two clauses; the rules. -/
namespace Hr
open PySem PySem.Spec PyProof.Rows L2
section
variable {T : Tb} {X : Cx} {K : PySem.W.Frag} {W W0 W1 W2 W3 : WX} {G : Pg} {σ : St} {H H' : Hp} {ρ ρ' : List Addr} {st : Sto} {env : Env} {A : Addr} {acc acc' : List V}
theorem Exw.trans {ρ'' : List Addr} {H'' : Hp} (a : Exw ρ H ρ' H') (b : Exw ρ' H' ρ'' H'') (n : ∀ a ∈ ρ', a ∉ ρ → H a = none) : Exw ρ H ρ'' H'' := by
  obtain ⟨t1, e1⟩ := a.pre
  obtain ⟨t2, e2⟩ := b.pre
  refine ⟨⟨t1 ++ t2, by rw [e2, e1]; simp⟩, fun x o e h1 h2 h3 => b.keep x o (a.keep x o e h1 h2 h3) (fun m => ?_) h2 h3⟩
  have := n x m h1
  rw [e] at this; cases this
/-- .. and no place of the new ones stood -/
structure Exv (ρ : List Addr) (H : Hp) (ρ' : List Addr) (H' : Hp) : Prop where
  w : Exw ρ H ρ' H'
  new : ∀ a ∈ ρ', a ∉ ρ → H a = none
theorem Exv.refl : Exv ρ H ρ H := ⟨Ext.refl.weak, fun _ h n => absurd h n⟩
theorem Exv.step {ρ'' : List Addr} {H'' : Hp} (a : Exv ρ H ρ' H') (b : Ext ρ' H' ρ'' H'') (hn : ∀ x o, H x = some o → H' x ≠ none) : Exv ρ H ρ'' H'' := by
  refine ⟨a.w.trans b.weak a.new, fun x m h => ?_⟩
  by_cases k : x ∈ ρ'
  · exact a.new x k h
  · have e := b.new x m k
    cases q : H x with
    | none => rfl
    | some o => exact absurd e (hn x o q)
theorem Exv.off {o : HO} (a : Exv ρ H ρ' H') (hA : H A = some (.lst acc)) : Exv ρ H ρ' (upd H' A o) := by
  refine ⟨⟨a.w.pre, fun x u e h1 h2 h3 => ?_⟩, a.new⟩
  have ne : x ≠ A := fun z => by rw [z, hA] at e; cases e; exact h3 _ rfl
  rw [upd_ne ne]
  exact a.w.keep x u e h1 h2 h3
theorem lc2_read {t t2 : Hr.T} {sl sl2 own own2 : List Nat} {mi mi2 : Env → Sto → R (List D × Lk)} {mc mc2 : Env → Sto → R Bool} {me : Env → Sto → R D} {Q : VK} {fin : List D → Sto → Prop} (hsl : ∀ i ∈ sl, i ∈ own) (hsl2 : ∀ i ∈ sl2, i ∈ own2) (R0 : Rel T K ρ st H) (E0 : RelE T K ρ H env σ)
    (h : lcRest ((mi env st).bind fun q st1 => cmpL q.2 own t mc (fun env1 st2 => (mi2 env1 st2).bind fun q2 st3 => cmpL q2.2 own2 t2 mc2 (fun env st => oneL (me env st)) env1 q2.1 st3) env q.1 st1) [] fin) (hz : ∀ vs st, fin vs st → vs.length ≤ sizeLine)
    (hQ : ∀ vs st' ρ' H' A acc, fin vs st' → Ext ρ H ρ' H' → H A = none → Rel T K ρ' st' H' → H' A = some (.lst acc) → A ∉ ρ' → RelDs T K ρ' H' vs acc → Q (.ref A) H') :
    tLc2 (tI T K W mi) (tG T K sl (asgT t)) (tT T K W0 mc) (tI T K W2 mi2) (tG T K sl2 (asgT t2)) (tT T K W3 mc2) (tE T K W1 me) own own2 σ H Q := by
  obtain ⟨q, st1, e1, h⟩ := lcRest_bind h
  refine ⟨ρ, env, st, R0, E0, ?_⟩
  rw [e1]
  intro J ρ1 H1 X1 R1 wk A hA
  have E1 := E0.ext R0 X1
  have hA0 : H A = none := ext_none R0 X1 R1 hA
  have nA : A ∉ ρ1 := fun m => by
    obtain ⟨n, o, x, _, _, e, _⟩ := R1.at m
    rw [hA] at e; cases e
  refine ⟨fun i m H' => i + m = q.1.length ∧ ∃ ρ' st' ds acc, Ext ρ1 H1 ρ' H' ∧ Rel T K ρ' st' H' ∧ H' A = some (.lst acc) ∧ A ∉ ρ' ∧ RelDs T K ρ' H' ds acc ∧ RelE T K ρ' H' env σ ∧ lcRest (cmpL q.2 own t mc (fun env1 st2 => (mi2 env1 st2).bind fun q2 st3 => cmpL q2.2 own2 t2 mc2 (fun env st => oneL (me env st)) env1 q2.1 st3) env (q.1.drop i) st') ds fin,
    ⟨q.1.length, by simp, ρ1, st1, [], [], Ext.refl.off hA, R1.laid hA, upd_same, nA, .nil, E1.ext R1 (Ext.laid R1 hA), by simpa using h⟩, ?_⟩
  rintro i m H' ⟨hm, ρ', st', ds, acc, X2, R2, gA, nA2, rs, E2, an⟩
  by_cases hl : i = q.1.length
  · left
    subst hl
    rw [List.drop_length] at an
    simp only [cmpL] at an
    by_cases hs : q.2.stands st'
    · rw [if_pos hs] at an
      have an : fin (ds ++ []) st' := an
      rw [List.append_nil] at an
      exact ⟨wk.stop ρ' H' st' X2.weak R2 hs, hQ ds st' ρ' H' A acc an (X1.trans X2) hA0 R2 gA nA2 rs⟩
    · rw [if_neg hs] at an; exact an.elim
  · right
    have hlt : i < q.1.length := by omega
    rw [List.drop_eq_getElem_cons hlt] at an
    simp only [cmpL] at an
    by_cases hs : q.2.stands st'
    · rw [if_pos hs] at an
      refine ⟨wk.go i ρ' H' st' X2.weak R2 hs hlt, fun H'' => ∃ ρ'' st'' ds'' acc'', Ext ρ1 H1 ρ'' H'' ∧ Rel T K ρ'' st'' H'' ∧ H'' A = some (.lst acc'') ∧ A ∉ ρ'' ∧ RelDs T K ρ'' H'' ds'' acc'' ∧ RelE T K ρ'' H'' env σ ∧ lcRest (cmpL q.2 own t mc (fun env1 st2 => (mi2 env1 st2).bind fun q2 st3 => cmpL q2.2 own2 t2 mc2 (fun env st => oneL (me env st)) env1 q2.1 st3) env (q.1.drop (i + 1)) st'') ds'' fin,
        fun H'' n => ⟨m - 1, by omega, by omega, n⟩, fun x H'' y => ?_⟩
      obtain ⟨X3, R3, r3⟩ := wk.yld i q.1[i] ρ' H' st' x H'' X2.weak R2 hs (List.getElem?_eq_getElem hlt) y
      cases ea : asgT t q.1[i] (wipe env own) with
      | none => rw [ea] at an; exact an.elim
      | some env1 =>
        rw [ea] at an
        dsimp only at an
        refine ⟨ρ', wipe env own, st', q.1[i], env1, R3, (E2.ext R2 X3).wipe own, r3, ea, fun σ4 ρ4 H4 S4 X4 R4 E4 => ⟨(S4.wipe hsl).trans wipe_wipe, ρ4, env1, st', R4, E4, ?_⟩⟩
        obtain ⟨b, st5, e5, an⟩ := lcRest_bind an
        rw [e5]
        intro b' ρ5 H5 X5 R5 eb
        obtain rfl : b = b' := eb
        have X25 : Ext ρ' H' ρ5 H5 := (X3.trans X4).trans X5
        obtain ⟨gA5, nA5⟩ := off_keeps gA nA2 X25
        have rs5 := rs.ext R2 X25
        have E5 := E4.ext R4 X5
        cases b with
        | false => exact ⟨ρ5, st5, ds, acc, X2.trans X25, R5, gA5, nA5, rs5, E2.ext R2 X25, an⟩
        | true =>
          rw [if_pos rfl]
          dsimp only at an
          -- the inner clause
          obtain ⟨ys, sty, ey, an⟩ := lcRest_bind an
          have hin : lcRest ((mi2 env1 st5).bind fun q2 st3 => cmpL q2.2 own2 t2 mc2 (fun env st => oneL (me env st)) env1 q2.1 st3) [] (fun zs stz => lcRest ((cmpL q.2 own t mc (fun env1 st2 => (mi2 env1 st2).bind fun q2 st3 => cmpL q2.2 own2 t2 mc2 (fun env st => oneL (me env st)) env1 q2.1 st3) env (q.1.drop (i + 1)) stz).bind fun zs' st3 => .ok (zs ++ zs') st3) ds fin) := by
            rw [ey]; exact an
          clear an ey
          obtain ⟨q2, st6, e6, hin⟩ := lcRest_bind hin
          refine ⟨ρ5, env1, st5, R5, E5, ?_⟩
          rw [e6]
          intro J1 ρ6 H6 X6 R6 wk2
          obtain ⟨gA6, nA6⟩ := off_keeps gA5 nA5 X6
          have E6 := E5.ext R5 X6
          refine ⟨fun j k H7 => j + k = q2.1.length ∧ ∃ ρ7 st7 es acc7, Ext ρ1 H1 ρ7 H7 ∧ Exv ρ6 H6 ρ7 H7 ∧ (∀ x o, H6 x = some o → H7 x ≠ none) ∧ Rel T K ρ7 st7 H7 ∧ H7 A = some (.lst acc7) ∧ A ∉ ρ7 ∧ RelDs T K ρ7 H7 (ds ++ es) acc7 ∧ RelE T K ρ7 H7 env σ ∧ RelE T K ρ7 H7 env1 σ4 ∧
              lcRest (cmpL q2.2 own2 t2 mc2 (fun env st => oneL (me env st)) env1 (q2.1.drop j) st7) es (fun zs stz => lcRest ((cmpL q.2 own t mc (fun env1 st2 => (mi2 env1 st2).bind fun q2 st3 => cmpL q2.2 own2 t2 mc2 (fun env st => oneL (me env st)) env1 q2.1 st3) env (q.1.drop (i + 1)) stz).bind fun zs' st3 => .ok (zs ++ zs') st3) ds fin),
            ⟨q2.1.length, by simp, ρ6, st6, [], acc, (X2.trans X25).trans X6, Exv.refl, fun x o e => (by rw [e]; simp), R6, gA6, nA6, by simpa using rs5.ext R5 X6, (E2.ext R2 X25).ext R5 X6, E6, by simpa using hin⟩, ?_⟩
          rintro j k H7 ⟨hk, ρ7, st7, es, acc7, X7, V7, N7, R7, gA7, nA7, rs7, E7, F7, an⟩
          by_cases hl2 : j = q2.1.length
          · left
            subst hl2
            rw [List.drop_length] at an
            simp only [cmpL] at an
            by_cases hs2 : q2.2.stands st7
            · rw [if_pos hs2] at an
              obtain ⟨zs, stz, ez, an⟩ := lcRest_bind (show lcRest ((cmpL q.2 own t mc (fun env1 st2 => (mi2 env1 st2).bind fun q2 st3 => cmpL q2.2 own2 t2 mc2 (fun env st => oneL (me env st)) env1 q2.1 st3) env (q.1.drop (i + 1)) st7).bind fun zs' st3 => .ok ((es ++ []) ++ zs') st3) ds fin from an)
              refine ⟨wk2.stop ρ7 H7 st7 V7.w R7 hs2, ρ7, st7, ds ++ es, acc7, X7, R7, gA7, nA7, rs7, E7, ?_⟩
              rw [ez]
              have an : fin (ds ++ ((es ++ []) ++ zs)) stz := an
              show fin (ds ++ es ++ zs) stz
              simpa using an
            · rw [if_neg hs2] at an; exact an.elim
          · right
            have hlt2 : j < q2.1.length := by omega
            rw [List.drop_eq_getElem_cons hlt2] at an
            simp only [cmpL] at an
            by_cases hs2 : q2.2.stands st7
            · rw [if_pos hs2] at an
              refine ⟨wk2.go j ρ7 H7 st7 V7.w R7 hs2 hlt2, fun H8 => ∃ ρ7' st7' es' acc7', Ext ρ1 H1 ρ7' H8 ∧ Exv ρ6 H6 ρ7' H8 ∧ (∀ x o, H6 x = some o → H8 x ≠ none) ∧ Rel T K ρ7' st7' H8 ∧ H8 A = some (.lst acc7') ∧ A ∉ ρ7' ∧ RelDs T K ρ7' H8 (ds ++ es') acc7' ∧ RelE T K ρ7' H8 env σ ∧ RelE T K ρ7' H8 env1 σ4 ∧
                  lcRest (cmpL q2.2 own2 t2 mc2 (fun env st => oneL (me env st)) env1 (q2.1.drop (j + 1)) st7') es' (fun zs stz => lcRest ((cmpL q.2 own t mc (fun env1 st2 => (mi2 env1 st2).bind fun q2 st3 => cmpL q2.2 own2 t2 mc2 (fun env st => oneL (me env st)) env1 q2.1 st3) env (q.1.drop (i + 1)) stz).bind fun zs' st3 => .ok (zs ++ zs') st3) ds fin),
                fun H8 n => ⟨k - 1, by omega, by omega, n⟩, fun x H8 y => ?_⟩
              obtain ⟨X8, R8, r8⟩ := wk2.yld j q2.1[j] ρ7 H7 st7 x H8 V7.w R7 hs2 (List.getElem?_eq_getElem hlt2) y
              cases ea2 : asgT t2 q2.1[j] (wipe env1 own2) with
              | none => rw [ea2] at an; exact an.elim
              | some env2 =>
                rw [ea2] at an
                dsimp only at an
                refine ⟨ρ7, wipe env1 own2, st7, q2.1[j], env2, R8, (F7.ext R7 X8).wipe own2, r8, ea2, fun σ9 ρ9 H9 S9 X9 R9 E9 => ⟨(S9.wipe hsl2).trans wipe_wipe, ρ9, env2, st7, R9, E9, ?_⟩⟩
                obtain ⟨b2, st10, e10, an⟩ := lcRest_bind an
                rw [e10]
                intro b2' ρ10 H10 X10 R10 eb2
                obtain rfl : b2 = b2' := eb2
                have X70 : Ext ρ7 H7 ρ10 H10 := (X8.trans X9).trans X10
                obtain ⟨gA10, nA10⟩ := off_keeps gA7 nA7 X70
                have keepN : ∀ {ρa ρb : List Addr} {Ha Hb : Hp} {sa : Sto} {sb : Sto}, Rel T K ρa sa Ha → Rel T K ρb sb Hb → Ext ρa Ha ρb Hb → (∀ x o, H6 x = some o → Ha x ≠ none) → ∀ x o, H6 x = some o → Hb x ≠ none := fun {ρa ρb Ha Hb sa sb} Ra Rb xx ih x o e z => ih x o e (ext_none Ra xx Rb z)
                have N10 := keepN R7 R10 X70 N7
                have V10 := V7.step X70 N7
                cases b2 with
                | false => exact ⟨ρ10, st10, es, acc7, X7.trans X70, V10, N10, R10, gA10, nA10, rs7.ext R7 X70, E7.ext R7 X70, F7.ext R7 X70, an⟩
                | true =>
                  rw [if_pos rfl]
                  dsimp only at an
                  refine ⟨ρ10, env2, st10, R10, E9.ext R9 X10, ?_⟩
                  cases e11 : me env2 st10 with
                  | exc c vs s => rw [e11] at an; exact an.elim
                  | bad => rw [e11] at an; exact an.elim
                  | ok y st11 =>
                    rw [e11] at an
                    intro v ρ11 H11 X11 R11 r11
                    obtain ⟨zs, st12, e12, an⟩ := lcRest_bind (show lcRest ((cmpL q2.2 own2 t2 mc2 (fun env st => oneL (me env st)) env1 (q2.1.drop (j + 1)) st11).bind fun zs st3 => .ok ([y] ++ zs) st3) es _ from an)
                    have an := show lcRest ((cmpL q.2 own t mc (fun env1 st2 => (mi2 env1 st2).bind fun q2 st3 => cmpL q2.2 own2 t2 mc2 (fun env st => oneL (me env st)) env1 q2.1 st3) env (q.1.drop (i + 1)) st12).bind fun zs' st3 => .ok ((es ++ ([y] ++ zs)) ++ zs') st3) ds fin from an
                    obtain ⟨gA11, nA11⟩ := off_keeps gA10 nA10 X11
                    have X711 := X70.trans X11
                    have rs11 := rs7.ext R7 X711
                    have N11 := keepN R10 R11 X11 N10
                    have V11 := V10.step X11 N10
                    refine ⟨acc7, gA11, ?_, ρ11, st11, es ++ [y], acc7 ++ [v], ((X7.trans X711).off hA), V11.off gA6, fun x o e => ?_, R11.off gA11 nA11, upd_same, nA11, ?_, (E7.ext R7 X711).off gA11, (F7.ext R7 X711).off gA11, ?_⟩
                    · obtain ⟨zs', st13, e13, an⟩ := lcRest_bind an
                      have := hz _ _ (show fin (ds ++ ((es ++ ([y] ++ zs)) ++ zs')) st13 from an)
                      rw [← rs7.length]
                      simp at this ⊢; omega
                    · by_cases q : x = A
                      · rw [q, upd_same]; simp
                      · rw [upd_ne q]; exact N11 x o e
                    · rw [← List.append_assoc]
                      exact (rs11.append (.cons r11 .nil)).off gA11
                    · rw [e12]
                      show lcRest ((cmpL q.2 own t mc (fun env1 st2 => (mi2 env1 st2).bind fun q2 st3 => cmpL q2.2 own2 t2 mc2 (fun env st => oneL (me env st)) env1 q2.1 st3) env (q.1.drop (i + 1)) st12).bind fun zs' st3 => .ok ((es ++ [y] ++ zs) ++ zs') st3) ds fin
                      simpa using an
            · rw [if_neg hs2] at an; exact an.elim
    · rw [if_neg hs] at an; exact an.elim
end
end Hr

/-! The rules of comprehensions. -/
namespace Hr
open PySem PySem.Spec PyProof.Rows L2
section
variable {T : Tb} {X : Cx} {K : PySem.W.Frag} {W W0 W1 W2 W3 : WX} {G : Pg} {σ : St} {H H' : Hp} {ρ ρ' : List Addr} {st : Sto} {env : Env} {A : Addr} {acc acc' : List V}
/-- what is wanted of the items: the list itself is -/
def finL (T : Tb) (K : PySem.W.Frag) (ρ : List Addr) (H : Hp) (Q : VK) (vs : List D) (st1 : Sto) : Prop := vs.length ≤ sizeLine ∧ ∀ v ρ' H', Ext ρ H ρ' H' → Rel T K ρ' (st1.new (.lst vs)) H' → RelD T K ρ' H' (.ref st1.len) v → Q v H'
theorem rest_of {r : R (List D)} {Q : VK} (h : Ans T K (RelD T K) W ρ H σ (r.bind fun vs st1 => grd (decide (vs.length ≤ sizeLine)) (.ok (.ref st1.len) (st1.new (.lst vs)))) Q) : lcRest r [] (finL T K ρ H Q) := by
  cases r with
  | ok vs st1 =>
    obtain ⟨h1, h⟩ := grd_ok (show Ans T K (RelD T K) W ρ H σ (grd (decide (vs.length ≤ sizeLine)) (.ok (.ref st1.len) (st1.new (.lst vs)))) Q from h)
    exact ⟨of_decide_eq_true h1, h⟩
  | exc c vs st1 => exact h
  | bad => exact h
theorem finL_end {Q : VK} : ∀ vs st' ρ' H' A acc, finL T K ρ H Q vs st' → Ext ρ H ρ' H' → H A = none → Rel T K ρ' st' H' → H' A = some (.lst acc) → A ∉ ρ' → RelDs T K ρ' H' vs acc → Q (.ref A) H' :=
  fun vs st' ρ' H' A acc f x n R1 g na rs => f.2 (.ref A) (ρ' ++ [A]) H' (x.took n) (R1.took g na rs) (ref_took R1)
abbrev Blk (X : Cx) (P : Cx → Prop) (scope : Scope) : Prop := ∀ (s : Shared) (H : Hp) (C : Addr) (cl : List (Str × Addr)) (fp : List Addr), P (X.blk s H scope (compEnvC scope cl C X.env) fp)
theorem sE_lc {elt tg iter : Expr} {ifs : List Expr} {scope : Scope} {own : List (Str × Nat)} {ow sl : List Nat} {t : Hr.T} {pos : Pos} {mi : Env → Sto → R (List D × Lk)} {mc : Env → Sto → R Bool} {me : Env → Sto → R D} (how : own.map (·.2) = ow) (hsl : ∀ i ∈ sl, i ∈ ow) (hc : X.calm = true) (hN : X.N.Nodup) (hi : PI X tg iter (tI T X.K W mi)) (ok : BlkOk X.N X.env.scope scope own)
    (hg : Blk X (fun Y => PG Y tg (tG T X.K sl (asgT t))) scope) (ht : Blk X (fun Y => PTs Y ifs (tT T X.K W0 mc)) scope) (he : Blk X (fun Y => PE Y elt (tE T X.K W1 me)) scope) (hs : ∀ x, foldedSetIterable iter X.env x = pure x) :
    PE X (.ListComp elt [⟨tg, iter, ifs, 0⟩] scope pos) (tE T X.K W fun env st => ((mi env st).bind fun q st1 => cmpL q.2 ow t mc (fun env st => oneL (me env st)) env q.1 st1).bind fun vs st1 => grd (decide (vs.length ≤ sizeLine)) (.ok (.ref st1.len) (st1.new (.lst vs)))) := by
  subst how
  refine PE.weak (pe_lc hc hN hi ok hg ht he hs) fun σ H Q h => ?_
  obtain ⟨ρ, env, st, R0, E0, h⟩ := h
  exact lc_read hsl R0 E0 (rest_of h) (fun vs st f => f.1) finL_end
theorem sE_lc2 {elt tg iter tg1 iter1 : Expr} {ifs ifs1 : List Expr} {scope : Scope} {own : List (Str × Nat)} {ow sl sl2 : List Nat} {t t2 : Hr.T} {pos : Pos} {mi mi2 : Env → Sto → R (List D × Lk)} {mc mc2 : Env → Sto → R Bool} {me : Env → Sto → R D} (how : own.map (·.2) = ow) (hsl : ∀ i ∈ sl, i ∈ ow) (hsl2 : ∀ i ∈ sl2, i ∈ ow) (hc : X.calm = true) (hN : X.N.Nodup) (hi : PI X tg iter (tI T X.K W mi)) (ok : BlkOk X.N X.env.scope scope own)
    (hg : Blk X (fun Y => PG Y tg (tG T X.K sl (asgT t))) scope) (ht : Blk X (fun Y => PTs Y ifs (tT T X.K W0 mc)) scope) (hi1 : Blk X (fun Y => PI Y tg1 iter1 (tI T X.K W2 mi2)) scope) (hg1 : Blk X (fun Y => PG Y tg1 (tG T X.K sl2 (asgT t2))) scope) (ht1 : Blk X (fun Y => PTs Y ifs1 (tT T X.K W3 mc2)) scope)
    (he : Blk X (fun Y => PE Y elt (tE T X.K W1 me)) scope) (hs : ∀ x, foldedSetIterable iter X.env x = pure x) (hs1 : ∀ env x, foldedSetIterable iter1 env x = pure x) :
    PE X (.ListComp elt [⟨tg, iter, ifs, 0⟩, ⟨tg1, iter1, ifs1, 0⟩] scope pos) (tE T X.K W fun env st => ((mi env st).bind fun q st1 => cmpL q.2 ow t mc (fun env1 st2 => (mi2 env1 st2).bind fun q2 st3 => cmpL q2.2 sl2 t2 mc2 (fun env st => oneL (me env st)) env1 q2.1 st3) env q.1 st1).bind fun vs st1 => grd (decide (vs.length ≤ sizeLine)) (.ok (.ref st1.len) (st1.new (.lst vs)))) := by
  subst how
  refine PE.weak (pe_lc2 (vs1 := sl2) hc hN hi ok hsl2 hg ht hi1 hg1 ht1 he hs hs1) fun σ H Q h => ?_
  obtain ⟨ρ, env, st, R0, E0, h⟩ := h
  exact lc2_read hsl (fun i h => h) R0 E0 (rest_of h) (fun vs st f => f.1) finL_end
theorem rest_ofS {r : R (List D)} {D' : Ends} {i : Nat} (E0 : RelE T K ρ H env σ) (h : AnsS T K W ρ H ((r.bind fun vs st1 => grd (decide (vs.length ≤ sizeLine)) (.ok (.ref st1.len) (st1.new (.lst vs)))).to env fun d st1 => (match asgT (.nm i) d env with
    | some env1 => .nx env1 st1
    | none => .bad)) D') : lcRest r [] fun vs st1 => vs.length ≤ sizeLine ∧ ∀ σ ρ' H', Ext ρ H ρ' H' → Rel T K ρ' (st1.new (.lst vs)) H' → RelE T K ρ' H' (env.set i (some (D.ref st1.len))) σ → D'.nx σ H' := by
  cases r with
  | ok vs st1 =>
    by_cases hl : vs.length ≤ sizeLine
    · have e : (R.ok (α := List D) vs st1).bind (fun vs st1 => grd (decide (vs.length ≤ sizeLine)) (R.ok (D.ref st1.len) (st1.new (.lst vs)))) = R.ok (D.ref st1.len) (st1.new (.lst vs)) := by
        simp [R.bind, grd, hl]
      rw [e] at h
      exact ⟨hl, h⟩
    · have e : (R.ok (α := List D) vs st1).bind (fun vs st1 => grd (decide (vs.length ≤ sizeLine)) (R.ok (D.ref st1.len) (st1.new (.lst vs)))) = R.bad := by
        simp [R.bind, grd, hl]
      rw [e] at h
      exact h.elim
  | exc c vs st1 => exact h σ ρ H Ext.refl E0
  | bad => exact h
theorem sS_setLc {i : Nat} {y : Str} {py : Pos} {elt tg iter : Expr} {ifs : List Expr} {scope : Scope} {own : List (Str × Nat)} {ow sl : List Nat} {t : Hr.T} {pos spos : Pos} {mi : Env → Sto → R (List D × Lk)} {mc : Env → Sto → R Bool} {me : Env → Sto → R D} (how : own.map (·.2) = ow) (hsl : ∀ i ∈ sl, i ∈ ow) (hc : X.calm = true) (hN : X.N.Nodup) (hy : X.N[i]? = some y) (hyl : X.env.scope.names.lookup y = some .local)
    (hsw : swapsWith (.ListComp elt [⟨tg, iter, ifs, 0⟩] scope pos) (some (.Name y py)) spos.line X.env = pure true) (hi : PI X tg iter (tI T X.K W mi)) (ok : BlkOk X.N X.env.scope scope own)
    (hg : Blk X (fun Y => PG Y tg (tG T X.K sl (asgT t))) scope) (ht : Blk X (fun Y => PTs Y ifs (tT T X.K W0 mc)) scope) (he : Blk X (fun Y => PE Y elt (tE T X.K W1 me)) scope) (hs : ∀ x, foldedSetIterable iter X.env x = pure x) :
    PS X (.Assign [.Name y py] (.ListComp elt [⟨tg, iter, ifs, 0⟩] scope pos) spos) (tS T X.K W fun env st => (((mi env st).bind fun q st1 => cmpL q.2 ow t mc (fun env st => oneL (me env st)) env q.1 st1).bind fun vs st1 => grd (decide (vs.length ≤ sizeLine)) (.ok (.ref st1.len) (st1.new (.lst vs)))).to env fun d st1 => (match asgT (.nm i) d env with
      | some env1 => .nx env1 st1
      | none => .bad)) := by
  subst how
  refine PS.weak (ps_setLc hc hN hy hyl hsw hi ok hg ht he hs) fun D' σ H h => ?_
  obtain ⟨ρ, env, st, R0, E0, h⟩ := h
  refine lc_read hsl R0 E0 (rest_ofS E0 h) (fun vs st f => f.1) fun vs st' ρ' H' A acc f x n R1 g na rs => ?_
  exact f.2 _ (ρ' ++ [A]) H' (x.took n) (R1.took g na rs) (RelE.set ⟨E0.len, fun j d e => by
    obtain ⟨v, h1, h2⟩ := E0.at_ j d e
    exact ⟨v, h1, (h2.ext R0 x).more [A]⟩⟩ (ref_took R1))
theorem sS_setLc2 {i : Nat} {y : Str} {py : Pos} {elt tg iter tg1 iter1 : Expr} {ifs ifs1 : List Expr} {scope : Scope} {own : List (Str × Nat)} {ow sl sl2 : List Nat} {t t2 : Hr.T} {pos spos : Pos} {mi mi2 : Env → Sto → R (List D × Lk)} {mc mc2 : Env → Sto → R Bool} {me : Env → Sto → R D} (how : own.map (·.2) = ow) (hsl : ∀ i ∈ sl, i ∈ ow) (hsl2 : ∀ i ∈ sl2, i ∈ ow) (hc : X.calm = true) (hN : X.N.Nodup) (hy : X.N[i]? = some y) (hyl : X.env.scope.names.lookup y = some .local)
    (hsw : swapsWith (.ListComp elt [⟨tg, iter, ifs, 0⟩, ⟨tg1, iter1, ifs1, 0⟩] scope pos) (some (.Name y py)) spos.line X.env = pure true) (hi : PI X tg iter (tI T X.K W mi)) (ok : BlkOk X.N X.env.scope scope own)
    (hg : Blk X (fun Y => PG Y tg (tG T X.K sl (asgT t))) scope) (ht : Blk X (fun Y => PTs Y ifs (tT T X.K W0 mc)) scope) (hi1 : Blk X (fun Y => PI Y tg1 iter1 (tI T X.K W2 mi2)) scope) (hg1 : Blk X (fun Y => PG Y tg1 (tG T X.K sl2 (asgT t2))) scope) (ht1 : Blk X (fun Y => PTs Y ifs1 (tT T X.K W3 mc2)) scope)
    (he : Blk X (fun Y => PE Y elt (tE T X.K W1 me)) scope) (hs : ∀ x, foldedSetIterable iter X.env x = pure x) (hs1 : ∀ env x, foldedSetIterable iter1 env x = pure x) :
    PS X (.Assign [.Name y py] (.ListComp elt [⟨tg, iter, ifs, 0⟩, ⟨tg1, iter1, ifs1, 0⟩] scope pos) spos) (tS T X.K W fun env st => (((mi env st).bind fun q st1 => cmpL q.2 ow t mc (fun env1 st2 => (mi2 env1 st2).bind fun q2 st3 => cmpL q2.2 sl2 t2 mc2 (fun env st => oneL (me env st)) env1 q2.1 st3) env q.1 st1).bind fun vs st1 => grd (decide (vs.length ≤ sizeLine)) (.ok (.ref st1.len) (st1.new (.lst vs)))).to env fun d st1 => (match asgT (.nm i) d env with
      | some env1 => .nx env1 st1
      | none => .bad)) := by
  subst how
  refine PS.weak (ps_setLc2 (vs1 := sl2) hc hN hy hyl hsw hi ok hsl2 hg ht hi1 hg1 ht1 he hs hs1) fun D' σ H h => ?_
  obtain ⟨ρ, env, st, R0, E0, h⟩ := h
  refine lc2_read hsl (fun i h => h) R0 E0 (rest_ofS E0 h) (fun vs st f => f.1) fun vs st' ρ' H' A acc f x n R1 g na rs => ?_
  exact f.2 _ (ρ' ++ [A]) H' (x.took n) (R1.took g na rs) (RelE.set ⟨E0.len, fun j d e => by
    obtain ⟨v, h1, h2⟩ := E0.at_ j d e
    exact ⟨v, h1, (h2.ext R0 x).more [A]⟩⟩ (ref_took R1))
/-! ### a built-in function of a comprehension -/
def BlOk (T : Tb) (X : Cx) (W : WX) (f : Value) (b : Bi) : Prop := ∃ r, CallR X f r ∧ ∀ ρ H st σ xs A vs Q, Rel T X.K ρ st H → H A = some (.lst vs) → RelDs T X.K ρ H xs vs → Ans T X.K (RelD T X.K) W ρ H σ (biL b xs st) Q → r [.ref A] H Q
theorem bl_len : BlOk T X W (.builtin "len") .len := ⟨_, call_len, fun ρ H st σ xs A vs Q R0 g rs a => ⟨_, vs.length, rfl, .inl ⟨vs, SqL.of g, rfl⟩, Ans.done a R0 (by rw [← rs.length]; exact .int _)⟩⟩
theorem bl_tuple : BlOk T X W (.type "tuple") .tuple := ⟨_, call_tuple_of, fun ρ H st σ xs A vs Q R0 g rs a => ⟨A, vs, rfl, .inl ⟨SqL.of g, fun l hl => Ans.tup a R0 hl rs⟩⟩⟩
theorem bl_list : BlOk T X W (.type "list") .list := ⟨_, call_list_of, fun ρ H st σ xs A vs Q R0 g rs a => ⟨A, vs, rfl, .inl (SqL.of g), fun l hl => Ans.made a R0 hl (.lst rs)⟩⟩
theorem bl_sum (hc : X.calm = true) : BlOk T X W (.builtin "sum") .sum := ⟨_, cr_sum hc, fun ρ H st σ xs A vs Q R0 g rs a => by
  cases e : asInts xs with
  | none => simp only [biL, e] at a; exact a.elim
  | some ns =>
    simp only [biL, e] at a
    exact ⟨A, ns, rfl, by rw [← rs.ints e]; exact SqL.of g, a.done R0 (.int _)⟩⟩
theorem bl_any (hc : X.calm = true) : BlOk T X W (.builtin "any") .any := ⟨_, cr_any hc, fun ρ H st σ xs A vs Q R0 g rs a => by
  cases e : asBls xs with
  | none => simp only [biL, e] at a; exact a.elim
  | some ns =>
    simp only [biL, e] at a
    exact ⟨A, ns, rfl, by rw [← rs.bls e]; exact SqL.of g, a.done R0 (.bl _)⟩⟩
theorem bl_all (hc : X.calm = true) : BlOk T X W (.builtin "all") .all := ⟨_, cr_all hc, fun ρ H st σ xs A vs Q R0 g rs a => by
  cases e : asBls xs with
  | none => simp only [biL, e] at a; exact a.elim
  | some ns =>
    simp only [biL, e] at a
    exact ⟨A, ns, rfl, by rw [← rs.bls e]; exact SqL.of g, a.done R0 (.bl _)⟩⟩
theorem bl_max (hc : X.calm = true) : BlOk T X W (.builtin "max") .max := ⟨_, cr_max hc, fun ρ H st σ xs A vs Q R0 g rs a => by
  cases e : asInts xs with
  | none => simp only [biL, e] at a; exact a.elim
  | some ns =>
    cases ns with
    | nil => simp only [biL, e] at a; exact a.elim
    | cons n ns =>
      simp only [biL, e] at a
      refine ⟨A, n :: ns, rfl, by rw [← rs.ints e]; exact SqL.of g, by simp, fun m hm hle => ?_⟩
      obtain ⟨h1, h2⟩ := maxI_mem ns n
      have : m = maxI n ns := Int.le_antisymm (h2 m hm) (hle _ h1)
      rw [this]; exact a.done R0 (.int _)⟩
theorem bl_min (hc : X.calm = true) : BlOk T X W (.builtin "min") .min := ⟨_, cr_min hc, fun ρ H st σ xs A vs Q R0 g rs a => by
  cases e : asInts xs with
  | none => simp only [biL, e] at a; exact a.elim
  | some ns =>
    cases ns with
    | nil => simp only [biL, e] at a; exact a.elim
    | cons n ns =>
      simp only [biL, e] at a
      refine ⟨A, n :: ns, rfl, by rw [← rs.ints e]; exact SqL.of g, by simp, fun m hm hle => ?_⟩
      obtain ⟨h1, h2⟩ := minI_mem ns n
      have : m = minI n ns := Int.le_antisymm (hle _ h1) (h2 m hm)
      rw [this]; exact a.done R0 (.int _)⟩
/-- what is wanted of the items: the function's answer is -/
def finB (T : Tb) (K : PySem.W.Frag) (W : WX) (ρ : List Addr) (H : Hp) (σ : St) (b : Bi) (Q : VK) (vs : List D) (st1 : Sto) : Prop := vs.length ≤ sizeLine ∧ Ans T K (RelD T K) W ρ H σ (biL b vs st1) Q
theorem rest_ofB {r : R (List D)} {b : Bi} {Q : VK} (h : Ans T K (RelD T K) W ρ H σ (r.bind fun vs st1 => grd (decide (vs.length ≤ sizeLine)) (biL b vs st1)) Q) : lcRest r [] (finB T K W ρ H σ b Q) := by
  cases r with
  | ok vs st1 =>
    obtain ⟨h1, h⟩ := grd_ok (show Ans T K (RelD T K) W ρ H σ (grd (decide (vs.length ≤ sizeLine)) (biL b vs st1)) Q from h)
    exact ⟨of_decide_eq_true h1, h⟩
  | exc c vs st1 => exact h
  | bad => exact h
/-- the two kinds of functions -/
inductive FnAt (X : Cx) (x : Str) : Value → Prop
  | b {id : String} : bootBuiltins x = some (.builtin id) → FnAt X x (.builtin id)
  | t {id : String} : bootBuiltins x = some (.type id) → FnAt X x (.type id)
theorem pe_fn1 {x : Str} {f : Value} {r : List V → Hp → VK → Prop} {e : Expr} {te : TE} {p pos : Pos} (hf : FnAt X x f) (hc : CallR X f r) (hg : L2.Gl X x) (hm : X.mg x = none) (he : PE X e te) (hn : x ≠ "__name__") (hdb : (x == ("__debug__" : Str)) = false) (hs : starEach [e] X.env = (false, eval e X.env) :: starEach [] X.env) :
    PE X (.Call (.Name x p) [e] [] pos) (fun σ H Q => te σ H fun v H1 => r [v] H1 Q) := by
  cases hf with
  | b hv => exact PE.weak (pe_callB hc hg hm hv (pa_cons he pa_nil hs) hn hdb hs rfl) fun σ H Q h => h
  | t hv => exact PE.weak (pe_callTy hc hg hm hv (pa_cons he pa_nil hs) hn hdb hs rfl) fun σ H Q h => h
theorem sE_fz {x : Str} {f : Value} {b : Bi} {p cpos : Pos} {elt tg iter : Expr} {ifs : List Expr} {scope : Scope} {own : List (Str × Nat)} {ow sl : List Nat} {t : Hr.T} {pos : Pos} {mi : Env → Sto → R (List D × Lk)} {mc : Env → Sto → R Bool} {me : Env → Sto → R D} (hb : BlOk T X W f b) (hf : FnAt X x f) (hgl : L2.Gl X x) (hm : X.mg x = none) (hn : x ≠ "__name__") (hdb : (x == ("__debug__" : Str)) = false)
    (how : own.map (·.2) = ow) (hsl : ∀ i ∈ sl, i ∈ ow) (hc : X.calm = true) (hN : X.N.Nodup) (hi : PI X tg iter (tI T X.K W mi)) (ok : BlkOk X.N X.env.scope scope own)
    (hg : Blk X (fun Y => PG Y tg (tG T X.K sl (asgT t))) scope) (ht : Blk X (fun Y => PTs Y ifs (tT T X.K W0 mc)) scope) (he : Blk X (fun Y => PE Y elt (tE T X.K W1 me)) scope) (hs : ∀ x, foldedSetIterable iter X.env x = pure x) :
    PE X (.Call (.Name x p) [.ListComp elt [⟨tg, iter, ifs, 0⟩] scope pos] [] cpos) (tE T X.K W fun env st => ((mi env st).bind fun q st1 => cmpL q.2 ow t mc (fun env st => oneL (me env st)) env q.1 st1).bind fun vs st1 => grd (decide (vs.length ≤ sizeLine)) (biL b vs st1)) := by
  subst how
  obtain ⟨r, hr, hh⟩ := hb
  refine PE.weak (pe_fn1 hf hr hgl hm (pe_lc hc hN hi ok hg ht he hs) hn hdb rfl) fun σ H Q h => ?_
  obtain ⟨ρ, env, st, R0, E0, h⟩ := h
  exact lc_read hsl R0 E0 (rest_ofB h) (fun vs st f => f.1) fun vs st' ρ' H' A acc f x n R1 g na rs => hh ρ' H' st' σ vs A acc Q R1 g rs (Ans.ext x f.2)
theorem sE_fz2 {x : Str} {f : Value} {b : Bi} {p cpos : Pos} {elt tg iter tg1 iter1 : Expr} {ifs ifs1 : List Expr} {scope : Scope} {own : List (Str × Nat)} {ow sl sl2 : List Nat} {t t2 : Hr.T} {pos : Pos} {mi mi2 : Env → Sto → R (List D × Lk)} {mc mc2 : Env → Sto → R Bool} {me : Env → Sto → R D} (hb : BlOk T X W f b) (hf : FnAt X x f) (hgl : L2.Gl X x) (hm : X.mg x = none) (hn : x ≠ "__name__") (hdb : (x == ("__debug__" : Str)) = false)
    (how : own.map (·.2) = ow) (hsl : ∀ i ∈ sl, i ∈ ow) (hsl2 : ∀ i ∈ sl2, i ∈ ow) (hc : X.calm = true) (hN : X.N.Nodup) (hi : PI X tg iter (tI T X.K W mi)) (ok : BlkOk X.N X.env.scope scope own)
    (hg : Blk X (fun Y => PG Y tg (tG T X.K sl (asgT t))) scope) (ht : Blk X (fun Y => PTs Y ifs (tT T X.K W0 mc)) scope) (hi1 : Blk X (fun Y => PI Y tg1 iter1 (tI T X.K W2 mi2)) scope) (hg1 : Blk X (fun Y => PG Y tg1 (tG T X.K sl2 (asgT t2))) scope) (ht1 : Blk X (fun Y => PTs Y ifs1 (tT T X.K W3 mc2)) scope)
    (he : Blk X (fun Y => PE Y elt (tE T X.K W1 me)) scope) (hs : ∀ x, foldedSetIterable iter X.env x = pure x) (hs1 : ∀ env x, foldedSetIterable iter1 env x = pure x) :
    PE X (.Call (.Name x p) [.ListComp elt [⟨tg, iter, ifs, 0⟩, ⟨tg1, iter1, ifs1, 0⟩] scope pos] [] cpos) (tE T X.K W fun env st => ((mi env st).bind fun q st1 => cmpL q.2 ow t mc (fun env1 st2 => (mi2 env1 st2).bind fun q2 st3 => cmpL q2.2 sl2 t2 mc2 (fun env st => oneL (me env st)) env1 q2.1 st3) env q.1 st1).bind fun vs st1 => grd (decide (vs.length ≤ sizeLine)) (biL b vs st1)) := by
  subst how
  obtain ⟨r, hr, hh⟩ := hb
  refine PE.weak (pe_fn1 hf hr hgl hm (pe_lc2 (vs1 := sl2) hc hN hi ok hsl2 hg ht hi1 hg1 ht1 he hs hs1) hn hdb rfl) fun σ H Q h => ?_
  obtain ⟨ρ, env, st, R0, E0, h⟩ := h
  exact lc2_read hsl (fun i h => h) R0 E0 (rest_ofB h) (fun vs st f => f.1) fun vs st' ρ' H' A acc f x n R1 g na rs => hh ρ' H' st' σ vs A acc Q R1 g rs (Ans.ext x f.2)
end
end Hr

/-! a, b = x, y: stored without the tuple. -/
namespace Hr
open PySem PySem.Spec PyProof.Rows L2
section
variable {T : Tb} {X : Cx} {K : PySem.W.Frag} {W : WX} {G : Pg} {σ : St} {H H' : Hp} {ρ ρ' : List Addr} {st : Sto} {env : Env}
theorem stepA {ev : Env → Sto → R (List D)} {f : D → Sto → SR} {D' : Ends} (R0 : Rel T K ρ st H) (E0 : RelE T K ρ H env σ) (h : AnsS T K W ρ H (((ev env st).bind fun vs st1 => grd (decide (vs.length ≤ sizeLine)) (.ok (.tup vs) st1)).to env f) D') :
    tA T K W ev σ H (fun vs H' => ∃ ds st' ρ', Rel T K ρ' st' H' ∧ RelE T K ρ' H' env σ ∧ Ext ρ H ρ' H' ∧ RelDs T K ρ' H' ds vs ∧ AnsS T K W ρ' H' (f (.tup ds) st') D') := by
  refine ⟨ρ, env, st, R0, E0, ?_⟩
  cases e : ev env st with
  | ok ds st1 =>
    rw [e] at h
    by_cases hl : ds.length ≤ sizeLine
    · have e2 : (R.ok (α := List D) ds st1).bind (fun vs st1 => grd (decide (vs.length ≤ sizeLine)) (R.ok (D.tup vs) st1)) = R.ok (D.tup ds) st1 := by simp [R.bind, grd, hl]
      rw [e2] at h
      exact fun vs ρ1 H1 X1 R1 rs => ⟨ds, st1, ρ1, R1, E0.ext R0 X1, X1, rs, AnsS.ext X1 h⟩
    · have e2 : (R.ok (α := List D) ds st1).bind (fun vs st1 => grd (decide (vs.length ≤ sizeLine)) (R.ok (D.tup vs) st1)) = R.bad := by simp [R.bind, grd, hl]
      rw [e2] at h; exact h.elim
  | exc c vs st1 => rw [e] at h; exact h σ ρ H Ext.refl E0
  | bad => rw [e] at h; exact h.elim
theorem sS_par2 {i j : Nat} {x y : Str} {a b : Expr} {ms : Env → Sto → R (List D)} {px py pt pos : Pos} {kt k2 : Nat} {pt2 : Pos} (hc : X.calm = true) (hN : X.N.Nodup) (hi : X.N[i]? = some x) (hj : X.N[j]? = some y) (hij : i ≠ j)
    (hx : X.env.scope.names.lookup x = some .local) (hy : X.env.scope.names.lookup y = some .local) (ha : PA X [a, b] (tA T X.K W ms))
    (hw : swappedStores [.Tuple [.Name x px, .Name y py] kt pt] (.Tuple [a, b] k2 pt2) X.env = pure (some [x, y]))
    (hs : swapsWithSole [.Tuple [.Name x px, .Name y py] kt pt] (.Tuple [a, b] k2 pt2) pos.line X.env = pure false) :
    PS X (.Assign [.Tuple [.Name x px, .Name y py] kt pt] (.Tuple [a, b] k2 pt2) pos) (tS T X.K W fun env st => ((ms env st).bind fun vs st1 => grd (decide (vs.length ≤ sizeLine)) (.ok (.tup vs) st1)).to env fun d st1 => (match asgT (.tp [.nm i, .nm j]) d env with
      | some env1 => .nx env1 st1
      | none => .bad)) := by
  refine PS.weak (ps_par hc hN hi hj hij hx hy ha hw hs) fun D' σ H h => ?_
  obtain ⟨ρ, env, st, R0, E0, h⟩ := h
  refine (stepA R0 E0 h).imp fun vs H1 q => ?_
  obtain ⟨ds, st1, ρ1, R1, E1, X1, rs, q⟩ := q
  cases rs with
  | nil => exact q.elim
  | cons r1 t =>
    cases t with
    | nil => exact q.elim
    | cons r2 t =>
      cases t with
      | cons => exact q.elim
      | nil => exact ⟨_, _, rfl, q _ ρ1 H1 Ext.refl R1 ((E1.set r1).set r2)⟩
theorem sS_par3 {i j l : Nat} {x y z : Str} {a b c : Expr} {ms : Env → Sto → R (List D)} {px py pz pt pos : Pos} {kt k2 : Nat} {pt2 : Pos} (hc : X.calm = true) (hN : X.N.Nodup) (hi : X.N[i]? = some x) (hj : X.N[j]? = some y) (hl : X.N[l]? = some z) (hij : i ≠ j) (hil : i ≠ l) (hjl : j ≠ l)
    (hx : X.env.scope.names.lookup x = some .local) (hy : X.env.scope.names.lookup y = some .local) (hz : X.env.scope.names.lookup z = some .local) (ha : PA X [a, b, c] (tA T X.K W ms))
    (hw : swappedStores [.Tuple [.Name x px, .Name y py, .Name z pz] kt pt] (.Tuple [a, b, c] k2 pt2) X.env = pure (some [x, y, z]))
    (hs : swapsWithSole [.Tuple [.Name x px, .Name y py, .Name z pz] kt pt] (.Tuple [a, b, c] k2 pt2) pos.line X.env = pure false) :
    PS X (.Assign [.Tuple [.Name x px, .Name y py, .Name z pz] kt pt] (.Tuple [a, b, c] k2 pt2) pos) (tS T X.K W fun env st => ((ms env st).bind fun vs st1 => grd (decide (vs.length ≤ sizeLine)) (.ok (.tup vs) st1)).to env fun d st1 => (match asgT (.tp [.nm i, .nm j, .nm l]) d env with
      | some env1 => .nx env1 st1
      | none => .bad)) := by
  refine PS.weak (ps_par3 hc hN hi hj hl hij hil hjl hx hy hz ha hw hs) fun D' σ H h => ?_
  obtain ⟨ρ, env, st, R0, E0, h⟩ := h
  refine (stepA R0 E0 h).imp fun vs H1 q => ?_
  obtain ⟨ds, st1, ρ1, R1, E1, X1, rs, q⟩ := q
  cases rs with
  | nil => exact q.elim
  | cons r1 t =>
    cases t with
    | nil => exact q.elim
    | cons r2 t =>
      cases t with
      | nil => exact q.elim
      | cons r3 t =>
        cases t with
        | cons => exact q.elim
        | nil => exact ⟨_, _, _, rfl, q _ ρ1 H1 Ext.refl R1 (((E1.set r1).set r2).set r3)⟩
end
end Hr

/-! The checker: my syntax stands for the program's; its side conditions. -/
namespace Hr
open PySem PySem.Spec PyProof.Rows L2
/-- names: those that the module does not bind, its constants, its defs -/
structure Names where
  blt : List Str
  con : List (Str × Nat)
  fn : List (Str × Nat)
/-- a level: the slots' names, the scope, which cells are its own -/
structure Lv where
  N : List Str
  sc : Scope
  fb : Str → Bool
def Lv.blk (lv : Lv) (scope : Scope) : Lv := ⟨lv.N, relS scope lv.sc, fun x => scope.names.lookup x == some .cell⟩
def kdB (lv : Lv) (x : Str) (k : NameKind) : Bool := decide (lv.sc.names.lookup x = some k)
def visB (lv : Lv) (x : Str) : Bool := kdB lv x .local || kdB lv x .cell || kdB lv x .free
def locB (lv : Lv) (x : Str) : Bool := (kdB lv x .local || kdB lv x .cell) && (lv.fb x || kdB lv x .local)
def slotB (lv : Lv) (i : Nat) (x : Str) : Bool := decide (lv.N[i]? = some x)
def notDbg (x : Str) : Bool := !(x == ("__debug__" : Str))
def notCd (x : Str) : Bool := !(x == ("__classdict__" : Str))
def glB (lv : Lv) (x : Str) : Bool := kdB lv x .globalImplicit && notDbg x
def bltB (Nm : Names) (lv : Lv) (x : Str) : Bool := glB lv x && decide (x ∈ Nm.blt)
/-! ### shapes -/
def star1 : Expr → Bool
  | .Starred _ _ => false
  | _ => true
def noSl : Expr → Bool
  | .Slice _ _ _ _ => false
  | _ => true
def noSet : Expr → Bool
  | .Set _ _ _ => false
  | _ => true
def noCmp : Expr → Bool
  | .ListComp _ _ _ _ => false
  | .SetComp _ _ _ _ => false
  | .DictComp _ _ _ _ _ => false
  | _ => true
def noTl : Expr → Bool
  | .Tuple _ _ _ => false
  | _ => true
def noCall0 : Expr → Bool
  | .Call (.Name _ _) [] [] _ => false
  | _ => true
def ptB : Expr → Bool
  | .IfExp _ _ _ _ => false
  | _ => true
theorem star1_ok {e : Expr} {es : List Expr} {env : PySem.Env} (h : star1 e = true) : starEach (e :: es) env = (false, eval e env) :: starEach es env := by cases e <;> first | rfl | cases h
theorem starsB_ok {es : List Expr} {env : PySem.Env} {pos : Pos} (h : es.all star1 = true) : (backTo pos (starEach es env)).any (·.1) = false := by
  induction es with
  | nil => rfl
  | cons e es ih =>
    simp only [List.all_cons, Bool.and_eq_true] at h
    rw [star1_ok h.1]
    show (false || (backTo pos (starEach es env)).any (·.1)) = false
    rw [ih h.2]; rfl
theorem starsA_ok {es : List Expr} {env : PySem.Env} {pos : Pos} (h : es.all star1 = true) : (backTo pos (starEach es env)).all (fun x => !x.1) = true := by
  induction es with
  | nil => rfl
  | cons e es ih =>
    simp only [List.all_cons, Bool.and_eq_true] at h
    rw [star1_ok h.1]
    show (true && (backTo pos (starEach es env)).all (fun x => !x.1)) = true
    rw [ih h.2]; rfl
theorem plainIx_ok {b : Expr} (h : noSl b = true) : PlainIx b := by cases b <;> first | exact fun _ _ => rfl | cases h
theorem folded_ok {e : Expr} (h : noSet e = true) : ∀ (env : PySem.Env) x, foldedSetIterable e env x = pure x := by cases e <;> first | exact fun _ _ => rfl | cases h
theorem swaps_ok {e : Expr} {tg : Option Expr} {l : Nat} {env : PySem.Env} (h : noCmp e = true) : swapsWith e tg l env = pure false := by cases e <;> first | rfl | cases h
theorem base_ok {o : Expr} {a : Str} {env : PySem.Env} {w : Sem Value} (h : noCall0 o = true) : attributeBase o a env w = w := by
  cases o with
  | Call f as ks pos =>
    cases f with
    | Name x p =>
      cases as with
      | cons => rfl
      | nil =>
        cases ks with
        | cons => rfl
        | nil => cases h
    | _ => rfl
  | _ => rfl
theorem stores_ok {tg e : Expr} {env : PySem.Env} (h : noTl e = true) : swappedStores [tg] e env = pure none := by
  cases e <;> first | (cases tg <;> rfl) | cases h
theorem asg1_ok {tg : Expr} {env : PySem.Env} (h : star1 tg = true) : (assignEach [tg] env).map (·.2) = [assign tg env] := by cases tg <;> first | rfl | cases h
theorem asgs_ok {e : Expr} {es : List Expr} {env : PySem.Env} (h : star1 e = true) : (assignEach (e :: es) env).map (·.2) = assign e env :: (assignEach es env).map (·.2) := by cases e <;> first | rfl | cases h
theorem asgl_ok {es : List Expr} {env : PySem.Env} (h : es.all star1 = true) : (assignEach es env).length = es.length ∧ (assignEach es env).findIdx? (·.1) = none := by
  induction es with
  | nil => exact ⟨rfl, rfl⟩
  | cons e es ih =>
    simp only [List.all_cons, Bool.and_eq_true] at h
    obtain ⟨h1, h2⟩ := ih h.2
    have e1 : assignEach (e :: es) env = (false, assign e env) :: assignEach es env := by cases e <;> first | rfl | cases h.1
    rw [e1]
    refine ⟨by simp [h1], ?_⟩
    rw [List.findIdx?_cons]
    simp [h2]
theorem asgsub_ok {a i : Expr} {env : PySem.Env} {tpos : Pos} (h : noSl i = true) : ∀ v, assign (.Subscript a i tpos) env v = (do
      let ov ← holding [v] (eval a env)
      let iv ← holding [v, ov] (eval i env)
      standAt tpos
      holding [v, ov, iv] (setItem ov iv v)
      release [v, ov, iv] []) := by cases i <;> first | exact fun _ => rfl | cases h
def valB : Expr → Bool
  | .UnaryOp .Not _ _ => false
  | .BoolOp _ _ _ => false
  | .IfExp _ _ _ _ => false
  | .Compare _ _ _ _ => false
  | _ => true
theorem val_ok {e : Expr} {env : PySem.Env} (h : valB e = true) : ∀ whole, isTrue e env whole = (do let v ← whole; standAt e.pos; holding [v] (truthy v)) := by
  cases e with
  | UnaryOp op a p => cases op <;> first | exact fun _ => rfl | cases h
  | _ => first | exact fun _ => rfl | cases h
theorem pe_one {X : Cx} {op : BoolOp} {b : Expr} {t : TE} {pos : Pos} (h : PE X b t) : PE X (.BoolOp op [b] pos) t :=
  ⟨fun pins s σ H Q I q => h.run pins s σ H Q I q⟩
/-! ### parallel stores -/
def swNames (k : Str → Option NameKind) (ts : List Expr) : List Str := ts.filterMap fun
    | .Name id pos => if k id == some .local && pos.line == ((ts.head?.map (·.pos.line)).getD 0) then some id else none
    | _ => none
def starred : Expr → Bool
  | .Starred .. => true
  | _ => false
def swP (k : Str → Option NameKind) (ts vs : List Expr) : Option (Option (List Str)) :=
  if !(ts.length == 2 || ts.length == 3) || vs.length != ts.length then some none
  else if vs.any starred then some none
  else if (swNames k ts).length != ts.length || (swNames k ts).eraseDups.length != (swNames k ts).length then some none
  else if vs.all (foldedForSure 8) then some none
  else if vs.all (constantsAlone 8) then none
  else some (some (swNames k ts))
theorem swP_ok {ts vs : List Expr} {a c : Nat} {b d : Pos} {env : PySem.Env} {r : Option (List Str)} (hk : env.scope.kind = .function) (h : swP env.kindOf ts vs = some r) : swappedStores [.Tuple ts a b] (.Tuple vs c d) env = pure r := by
  have hb : env.blockKind = .function := by unfold Env.blockKind; rw [hk]; rfl
  have key : swappedStores [.Tuple ts a b] (.Tuple vs c d) env = (do
    if (!(ts.length == 2 || ts.length == 3) || vs.length != ts.length || env.blockKind != .function) then return none
    if vs.any starred then return none
    if (swNames env.kindOf ts).length != ts.length || (swNames env.kindOf ts).eraseDups.length != (swNames env.kindOf ts).length then return none
    if vs.all (foldedForSure 8) then return none
    if vs.all (constantsAlone 8) then unsupported "assign.tuple-of-constant-expressions:order-of-the-stores"
    return some (swNames env.kindOf ts)) := rfl
  rw [key, hb]
  unfold swP at h
  have e0 : ((PySem.ScopeKind.function) != PySem.ScopeKind.function) = false := rfl
  rw [e0, Bool.or_false]
  split at h
  · next q => cases h; rw [if_pos q]
  · next q =>
    rw [if_neg q]
    split at h
    · next q => cases h; simp only [q, if_true]
    · next q =>
      simp only [q, Bool.false_eq_true, if_false]
      split at h
      · next q => cases h; simp only [q, if_true]
      · next q =>
        simp only [q, Bool.false_eq_true, if_false]
        split at h
        · next q => cases h; simp only [q, if_true]
        · next q =>
          simp only [q, Bool.false_eq_true, if_false]
          split at h
          · cases h
          · next q => cases h; simp only [q, Bool.false_eq_true, if_false]
end Hr

/-! The checker. -/
namespace Hr
open PySem PySem.Spec PyProof.Rows L2
def biName : Bi → Option Str
  | .len => some "len"
  | .int => some "int"
  | .tuple => some "tuple"
  | .list => some "list"
  | .sum => some "sum"
  | .any => some "any"
  | .all => some "all"
  | .max => some "max"
  | .min => some "min"
  | _ => none
def bmName : Bm → Option Str
  | .append => some "append"
  | .extend => some "extend"
  | .pop => some "pop"
  | _ => none
def tyN : Ty → Option Str
  | .int => some "int"
  | .bool => some "bool"
  | .str => some "str"
  | .tuple => some "tuple"
  | .list => some "list"
  | .dict => some "dict"
  | .own _ => none
section
variable (Nm : Names)
mutual
def chkG (lv : Lv) : T → Expr → Bool
  | .nm i, e => (match e with
    | .Name x _ => slotB lv i x && locB lv x
    | _ => false)
  | .tp ts, e => (match e with
    | .Tuple es _ _ => chkGs lv ts es && es.all star1
    | _ => false)
def chkGs (lv : Lv) : List T → List Expr → Bool
  | [], es => es.isEmpty
  | t :: ts, es => (match es with
    | e :: es => star1 e && chkG lv t e && chkGs lv ts es
    | [] => false)
end
def chkTys (lv : Lv) : List Ty → List Expr → Bool
  | [], es => es.isEmpty
  | t :: ts, es => (match es with
    | .Name x _ :: es => decide (tyN t = some x) && bltB Nm lv x && chkTys lv ts es
    | _ => false)
def ownP (lv : Lv) (ow : List Nat) : List (Str × Nat) := ow.map fun i => ((lv.N[i]?).getD (Str.ofString ""), i)
mutual
def chkE : E → Lv → Expr → Bool
  | .var i, lv, e => (match e with
    | .Name x _ => slotB lv i x && visB lv x && notDbg x && notCd x
    | _ => false)
  | .non, lv, e => (match e with
    | .Constant .none _ _ => true
    | _ => false)
  | .bl b, lv, e => (match e with
    | .Constant (.bool c) _ _ => b == c
    | _ => false)
  | .int b, lv, e => (match e with
    | .Constant (.int c) _ _ => decide (b = c)
    | _ => false)
  | .str b, lv, e => (match e with
    | .Constant (.str c) _ _ => decide (b = c)
    | _ => false)
  | .glo g, lv, e => (match e with
    | .Name x _ => glB lv x && decide (Nm.con.lookup x = some g)
    | _ => false)
  | .fnv f, lv, e => (match e with
    | .Name x _ => glB lv x && decide (Nm.fn.lookup x = some f)
    | _ => false)
  | .bin op a b, lv, e => (match e with
    | .BinOp x o y _ => decide (o = opOf op) && chkE a lv x && chkE b lv y
    | _ => false)
  | .neg a, lv, e => (match e with
    | .UnaryOp .USub x _ => chkE a lv x
    | _ => false)
  | .not a, lv, e => (match e with
    | .UnaryOp .Not x _ => chkE a lv x && ptB x
    | _ => false)
  | .and a b, lv, e => (match e with
    | .BoolOp .And (x :: y :: r) p => chkE a lv x && ptB x && (match r with
      | [] => chkE b lv y && ptB y
      | z :: r => chkE b lv (.BoolOp .And (y :: z :: r) p))
    | _ => false)
  | .or a b, lv, e => (match e with
    | .BoolOp .Or (x :: y :: r) p => chkE a lv x && ptB x && (match r with
      | [] => chkE b lv y && ptB y
      | z :: r => chkE b lv (.BoolOp .Or (y :: z :: r) p))
    | _ => false)
  | .cmp op a b, lv, e => (match e with
    | .Compare x [o] [y] _ => decide (o = copOf op) && !behindInMarks o y && chkE a lv x && chkE b lv y
    | _ => false)
  | .chn op op2 a b c, lv, e => (match e with
    | .Compare x [o, o2] [y, z] _ => decide (o = copOf op) && decide (o2 = copOf op2) && !lastMarks [o, o2] [y, z] && chkE a lv x && chkE b lv y && chkE c lv z
    | _ => false)
  | .isN a, lv, e => (match e with
    | .Compare x [.Is] [.Constant .none _ _] _ => chkE a lv x
    | _ => false)
  | .isnN a, lv, e => (match e with
    | .Compare x [.IsNot] [.Constant .none _ _] _ => chkE a lv x
    | _ => false)
  | .isi a ts, lv, e => (match e with
    | .Call (.Name f _) [x, y] [] _ => decide (f = ("isinstance" : Str)) && bltB Nm lv f && star1 x && chkE a lv x && (match y with
      | .Tuple tys _ _ => chkTys Nm lv ts tys && !ts.isEmpty && decide (ts.length ≤ 100)
      | .Name _ _ => (match ts with
        | [t] => chkTys Nm lv [t] [y]
        | _ => false)
      | _ => false)
    | _ => false)
  | .ite c a b, lv, e => (match e with
    | .IfExp x y z _ => chkE c lv x && ptB x && chkE a lv y && chkE b lv z
    | _ => false)
  | .idx a b, lv, e => (match e with
    | .Subscript x y _ => noSl y && chkE a lv x && chkE b lv y
    | _ => false)
  | .sli a lo hi, lv, e => (match e with
    | .Subscript x (.Slice l h none _) _ => chkE a lv x && chkO lo lv l && chkO hi lv h
    | _ => false)
  | .tup es, lv, e => (match e with
    | .Tuple xs _ _ => chkEs es lv xs
    | _ => false)
  | .lst es, lv, e => (match e with
    | .List xs _ => chkEs es lv xs
    | _ => false)
  | .call f es, lv, e => (match e with
    | .Call (.Name x _) xs [] _ => glB lv x && decide (Nm.fn.lookup x = some f) && chkEs es lv xs
    | _ => false)
  | .callv i es, lv, e => (match e with
    | .Call (.Name x _) (y :: xs) [] _ => slotB lv i x && visB lv x && notDbg x && notCd x && chkEs es lv (y :: xs)
    | _ => false)
  | .bi b es, lv, e => (match e with
    | .Call (.Name x _) (y :: xs) [] _ => decide (biName b = some x) && bltB Nm lv x && chkEs es lv (y :: xs)
    | _ => false)
  | .bm m a es, lv, e => (match e with
    | .Call (.Attribute o x ap) xs [] cp => decide (bmName m = some x) && noCall0 o && (ap.endLine == cp.line) && decide (xs.length < 29) && chkE a lv o && chkEs es lv xs
    | _ => false)
  | .lc elt cl, lv, e => (match e with
    | .ListComp x gs sc _ => chkC cl lv gs sc && chkE elt (lv.blk sc) x
    | _ => false)
  | .fz b elt cl, lv, e => (match e with
    | .Call (.Name f _) [.ListComp x gs sc _] [] _ => !(match b with | .int => true | _ => false) && decide (biName b = some f) && bltB Nm lv f && chkC cl lv gs sc && chkE elt (lv.blk sc) x
    | _ => false)
  | _, _, _ => false
def chkEs : Es → Lv → List Expr → Bool
  | .nil, lv, es => es.isEmpty
  | .cons m ms, lv, es => (match es with
    | e :: es => star1 e && chkE m lv e && chkEs ms lv es
    | [] => false)
def chkO : Es → Lv → Option Expr → Bool
  | .nil, lv, o => o.isNone
  | .cons m ms, lv, o => (match ms, o with
    | .nil, some e => chkE m lv e
    | _, _ => false)
def chkIf : Es → Lv → List Expr → Bool
  | .nil, lv, es => es.isEmpty
  | .cons m ms, lv, es => (match ms, es with
    | .nil, [e] => chkE m lv e && ptB e
    | _, _ => false)
def chkC : Cl → Lv → List Comprehension → Scope → Bool
  | .one ow t it cond, lv, gs, sc => (match gs with
    | [⟨tg, iter, ifs, 0⟩] => blkC lv.N lv.sc sc (ownP lv ow) && (t.slots.all fun i => decide (i ∈ ow)) && noSet iter && chkI it lv tg iter && chkG (lv.blk sc) t tg && chkIf cond (lv.blk sc) ifs
    | _ => false)
  | .two ow t it cond t2 it2 cond2, lv, gs, sc => (match gs with
    | [⟨tg, iter, ifs, 0⟩, ⟨tg2, iter2, ifs2, 0⟩] => blkC lv.N lv.sc sc (ownP lv ow) && (t.slots.all fun i => decide (i ∈ ow)) && (t2.slots.all fun i => decide (i ∈ ow)) && noSet iter && noSet iter2 && chkI it lv tg iter && chkG (lv.blk sc) t tg && chkIf cond (lv.blk sc) ifs
      && chkI it2 (lv.blk sc) tg2 iter2 && chkG (lv.blk sc) t2 tg2 && chkIf cond2 (lv.blk sc) ifs2
    | _ => false)
def chkI : I → Lv → Expr → Expr → Bool
  | .ex m, lv, tg, e => chkE m lv e
  | .rng es, lv, tg, e => (match e with
    | .Call (.Name x _) xs [] _ => decide (x = ("range" : Str)) && bltB Nm lv x && chkEs es lv xs && (xs.length == 1 || xs.length == 2)
    | _ => false)
  | .enum m, lv, tg, e => (match e with
    | .Call (.Name x _) [y] [] _ => decide (x = ("enumerate" : Str)) && bltB Nm lv x && star1 y && chkE m lv y && (match tg with
      | .Tuple _ _ _ => true
      | _ => false)
    | _ => false)
  | _, _, _, _ => false
end
/-- an assignment -/
def chkA (lv : Lv) (t : T) (m : E) (tgs : List Expr) (v : Expr) (sl : Nat) : Bool := match tgs with
  | [tg] => (match v with
    | .ListComp x gs sc p => (match t, tg with
      | .nm i, .Name y py => slotB lv i y && kdB lv y .local && (py.line == p.line) && !(sc.names.any fun (n, k) => n == y && (k == .local || k == .cell)) && (match m with
        | .lc elt cl => chkC Nm cl lv gs sc && chkE Nm elt (lv.blk sc) x
        | _ => false)
      | _, _ => false)
    | .Tuple vs _ _ => (match tg with
      | .Tuple ts _ _ => (match swP (fun x => lv.sc.names.lookup x) ts vs with
        | some none => chkG lv t tg && star1 tg && chkE Nm m lv v
        | some (some _) => (match t, ts, vs, m with
          | .tp [.nm i, .nm j], [.Name x _, .Name y _], [a, b], .tup es => slotB lv i x && slotB lv j y && decide (i ≠ j) && kdB lv x .local && kdB lv y .local && decide (swP (fun x => lv.sc.names.lookup x) ts vs = some (some [x, y])) && chkEs Nm es lv [a, b]
          | .tp [.nm i, .nm j, .nm l], [.Name x _, .Name y _, .Name z _], [a, b, c], .tup es => slotB lv i x && slotB lv j y && slotB lv l z && decide (i ≠ j) && decide (i ≠ l) && decide (j ≠ l) && kdB lv x .local && kdB lv y .local && kdB lv z .local
            && decide (swP (fun x => lv.sc.names.lookup x) ts vs = some (some [x, y, z])) && chkEs Nm es lv [a, b, c]
          | _, _, _, _ => false)
        | none => false)
      | .Name _ _ => chkG lv t tg && chkE Nm m lv v
      | _ => false)
    | _ => noTl v && noCmp v && star1 tg && chkG lv t tg && chkE Nm m lv v)
  | _ => false
mutual
def chkS : S → Lv → Stmt → Bool
  | .asg t m, lv, s => (match s with
    | .Assign tgs v p => chkA Nm lv t m tgs v p.line
    | _ => false)
  | .seti a i m, lv, s => (match s with
    | .Assign [.Subscript x y _] v _ => noTl v && noCmp v && noSl y && chkE Nm a lv x && chkE Nm i lv y && chkE Nm m lv v
    | _ => false)
  | .aug i op m, lv, s => (match s with
    | .AugAssign (.Name x _) o v _ => slotB lv i x && locB lv x && decide (o = opOf op) && chkE Nm m lv v
    | _ => false)
  | .expr m, lv, s => (match s with
    | .Expr v _ => noCmp v && chkE Nm m lv v
    | _ => false)
  | .ret m, lv, s => (match s with
    | .Return (some v) _ => chkE Nm m lv v
    | _ => false)
  | .retN, lv, s => (match s with
    | .Return none _ => true
    | _ => false)
  | .iff c a b, lv, s => (match s with
    | .If x y z _ => chkE Nm c lv x && ptB x && chkSs a lv y && chkSs b lv z
    | _ => false)
  | .forr t it b, lv, s => (match s with
    | .For tg iter body [] _ => noSet iter && chkI Nm it lv tg iter && chkG lv t tg && chkSs b lv body
    | _ => false)
  | .whil c b, lv, s => (match s with
    | .While x body [] _ => chkE Nm c lv x && ptB x && chkSs b lv body
    | _ => false)
  | .brk, lv, s => (match s with
    | .Break _ => true
    | _ => false)
  | .cnt, lv, s => (match s with
    | .Continue _ => true
    | _ => false)
  | .pss, lv, s => (match s with
    | .Pass _ => true
    | _ => false)
  | .rse c es, lv, s => (match s with
    | .Raise _ _ _ => true
    | _ => false)
  | _, _, _ => false
def chkSs : Ss → Lv → List Stmt → Bool
  | .nil, lv, ss => ss.isEmpty
  | .cons m ms, lv, ss => (match ss with
    | s :: ss => chkS m lv s && chkSs ms lv ss
    | [] => false)
end
end
end Hr

/-! The checker is sound. -/
namespace Hr
open PySem PySem.Spec PyProof.Rows L2
/-- a context that my evaluator may be read in -/
structure Cok (T : Tb) (G : Pg) (C : Calls) (Nm : Names) (k : Nat) (lv : Lv) (X : Cx) : Prop where
  N : X.N = lv.N
  sc : X.env.scope = lv.sc
  fn : X.fn = lv.fb
  xe : X.xe = fun _ _ => False
  calm : X.calm = true
  room : Room k X.A
  nd : X.N.Nodup
  kind : X.env.scope.kind = .function
  blt : ∀ x ∈ Nm.blt, X.mg x = none
  con : ∀ x g, Nm.con.lookup x = some g → ∃ u v d, X.mg x = some u ∧ RelV v u ∧ G.con g = some d ∧ ∀ ρ H, RelD T X.K ρ H d v
  fnv : ∀ x f, Nm.fn.lookup x = some f → ∃ fd ps, DefAt T X C k f x fd ps
  all : ∀ d, (∃ f y fd ps, d = .fn f ∧ DefAt T X C k f y fd ps) ∨ ∀ ds st, C d ds st = .bad
def boolB : Expr → Bool
  | .BoolOp _ _ _ => true
  | _ => false
section
variable {T : Tb} {G : Pg} {C : Calls} {Nm : Names} {k : Nat} {lv : Lv} {X : Cx} {W : WX}
theorem Cok.units (c : Cok T G C Nm k lv X) : X.A.units + 64 < cLine := by have := c.room.un; omega
theorem Cok.kd (c : Cok T G C Nm k lv X) {x : Str} {kd : NameKind} (h : kdB lv x kd = true) : X.env.scope.names.lookup x = some kd := by rw [c.sc]; exact of_decide_eq_true h
theorem Cok.vis (c : Cok T G C Nm k lv X) {x : Str} (h : visB lv x = true) : Vis X.env.scope x := by
  unfold visB at h
  simp only [Bool.or_eq_true] at h
  rcases h with (h | h) | h
  · exact .inl (c.kd h)
  · exact .inr (.inl (c.kd h))
  · exact .inr (.inr (c.kd h))
theorem Cok.loc (c : Cok T G C Nm k lv X) {x : Str} (h : locB lv x = true) : Loc X.env.scope x ∧ (X.fn x = true ∨ X.env.scope.names.lookup x = some .local) := by
  unfold locB at h
  simp only [Bool.and_eq_true, Bool.or_eq_true] at h
  refine ⟨h.1.elim (fun q => .inl (c.kd q)) fun q => .inr (c.kd q), h.2.elim (fun q => .inl (by rw [c.fn]; exact q)) fun q => .inr (c.kd q)⟩
theorem Cok.slot (c : Cok T G C Nm k lv X) {i : Nat} {x : Str} (h : slotB lv i x = true) : X.N[i]? = some x := by rw [c.N]; exact of_decide_eq_true h
theorem dbg_ok {x : Str} (h : notDbg x = true) : (x == ("__debug__" : Str)) = false := by
  unfold notDbg at h
  cases e : (x == ("__debug__" : Str)) with
  | false => rfl
  | true => rw [e] at h; cases h
theorem cd_ok {x : Str} (h : notCd x = true) : (x == ("__classdict__" : Str)) = false := by
  unfold notCd at h
  cases e : (x == ("__classdict__" : Str)) with
  | false => rfl
  | true => rw [e] at h; cases h
theorem Cok.gl (c : Cok T G C Nm k lv X) {x : Str} (h : glB lv x = true) : L2.Gl X x ∧ (x == ("__debug__" : Str)) = false := by
  unfold glB at h
  simp only [Bool.and_eq_true] at h
  exact ⟨c.kd h.1, dbg_ok h.2⟩
theorem Cok.bl (c : Cok T G C Nm k lv X) {x : Str} (h : bltB Nm lv x = true) : L2.Gl X x ∧ (x == ("__debug__" : Str)) = false ∧ X.mg x = none := by
  unfold bltB at h
  simp only [Bool.and_eq_true] at h
  obtain ⟨h1, h2⟩ := c.gl h.1
  exact ⟨h1, h2, c.blt x (of_decide_eq_true h.2)⟩
theorem relabel_eq (scope : Scope) (env : PySem.Env) : (PySem.relabel scope env) = relS scope env.scope := rfl
theorem Cok.blk (c : Cok T G C Nm k lv X) {scope : Scope} (hk : scope.kind = .function) (s : Shared) (H : Hp) (A : Addr) (cl : List (Str × Addr)) (fp : List Addr) : Cok T G C Nm k (lv.blk scope) (X.blk s H scope (compEnvC scope cl A X.env) fp) where
  N := c.N
  sc := by
    show relS scope X.env.scope = relS scope lv.sc
    rw [c.sc]
  fn := rfl
  xe := rfl
  calm := c.calm
  room := c.room
  nd := c.nd
  kind := hk
  blt := c.blt
  con := c.con
  fnv := fun x f h => let ⟨fd, ps, A⟩ := c.fnv x f h; ⟨fd, ps, ⟨A.gm, A.ok, A.kp, A.bd, A.ar⟩⟩
  all := fun d => (c.all d).elim (fun ⟨f, y, fd, ps, e, A⟩ => .inl ⟨f, y, fd, ps, e, ⟨A.gm, A.ok, A.kp, A.bd, A.ar⟩⟩) .inr
structure Ok3 (T : Tb) (X : Cx) (W : WX) (G : Pg) (C : Calls) (m : E) (e : Expr) : Prop where
  pe : PE X e (tE T X.K W (evE G C m))
  pt : ptB e = true → PT X e (tT T X.K W fun env st => truR (evE G C m env st))
  pw : boolB e = true → PW X e (tT T X.K W fun env st => truR (evE G C m env st))
theorem Ok3.val {m : E} {e : Expr} (h : PE X e (tE T X.K W (evE G C m))) (hv : valB e = true) : Ok3 T X W G C m e := ⟨h, fun _ => sT_val h (val_ok hv), fun z => by cases e <;> first | (simp [boolB] at z; done) | (simp [valB] at hv; done)⟩
theorem PE.cg {e : Expr} {m m' : Env → Sto → R D} (h : PE X e (tE T X.K W m)) (i : m = m') : PE X e (tE T X.K W m') := i ▸ h
theorem PT.cg {e : Expr} {m m' : Env → Sto → R Bool} (h : PT X e (tT T X.K W m)) (i : m = m') : PT X e (tT T X.K W m') := i ▸ h
theorem PW.cg {e : Expr} {m m' : Env → Sto → R Bool} (h : PW X e (tT T X.K W m)) (i : m = m') : PW X e (tT T X.K W m') := i ▸ h
theorem PA.cg {e : List Expr} {m m' : Env → Sto → R (List D)} (h : PA X e (tA T X.K W m)) (i : m = m') : PA X e (tA T X.K W m') := i ▸ h
theorem PS.cg {s : Stmt} {m m' : Env → Sto → SR} (h : PS X s (tS T X.K W m)) (i : m = m') : PS X s (tS T X.K W m') := i ▸ h
theorem PI.cg {tg s : Expr} {m m' : Env → Sto → R (List D × Lk)} (h : PI X tg s (tI T X.K W m)) (i : m = m') : PI X tg s (tI T X.K W m') := i ▸ h
/-- tests of a BoolOp's parts -/
theorem tru_not (r : R D) : truR ((truR r).bind fun b st => .ok (.bl (!b)) st) = (truR r).bind fun b st => .ok (!b) st := by
  cases h : truR r <;> rfl
mutual
theorem snG (c : Cok T G C Nm k lv X) : ∀ (t : Hr.T) (e : Expr), chkG lv t e = true → PG X e (tG T X.K t.slots (asgT t))
  | .nm i, e, h => by
    cases e with
    | Name x p =>
      simp only [chkG, Bool.and_eq_true] at h
      obtain ⟨l1, l2⟩ := c.loc h.2
      have := sG_nm (T := T) (pos := p) c.nd (c.slot h.1) l1 l2
      simpa only [Hr.T.slots] using this
    | _ => simp [chkG] at h
  | .tp ts, e, h => by
    cases e with
    | Tuple es kk p =>
      simp only [chkG, Bool.and_eq_true] at h
      obtain ⟨l1, l2⟩ := asgl_ok (env := X.env) h.2
      have := sG_tp (T := T) (k := kk) (pos := p) c.calm (snGs c ts es h.1) (by rw [l1]; exact chkGs_len ts es h.1) l2
      simpa only [Hr.T.slots] using this
    | _ => simp [chkG] at h
theorem snGs (c : Cok T G C Nm k lv X) : ∀ (ts : List Hr.T) (es : List Expr), chkGs lv ts es = true → PGs X es (tGs T X.K (Hr.T.slots.slotss ts) (asgT.asgTs ts))
  | [], es, h => by
    simp only [chkGs, List.isEmpty_iff] at h
    subst h
    simpa only [Hr.T.slots.slotss] using sGs_nil
  | t :: ts, es, h => by
    cases es with
    | nil => simp [chkGs] at h
    | cons e es =>
      simp only [chkGs, Bool.and_eq_true] at h
      have := sGs_cons (snG c t e h.1.2) (snGs c ts es h.2) (asgs_ok h.1.1)
      simpa only [Hr.T.slots.slotss] using this
theorem chkGs_len : ∀ (ts : List Hr.T) (es : List Expr), chkGs lv ts es = true → es.length = ts.length
  | [], es, h => by simp only [chkGs, List.isEmpty_iff] at h; subst h; rfl
  | t :: ts, es, h => by
    cases es with
    | nil => simp [chkGs] at h
    | cons e es =>
      simp only [chkGs, Bool.and_eq_true] at h
      simp [chkGs_len ts es h.2]
end
theorem biOk {b : Bi} {x : Str} (c : X.calm = true) (h : biName b = some x) : ∃ f, FnAt X x f ∧ BiOk T X W f b ∧ x ≠ "__name__" ∧ (b ≠ .int → BlOk T X W f b) := by
  cases b <;> simp only [biName, Option.some.injEq, reduceCtorEq] at h <;> subst h
  · exact ⟨_, .b boot_len, bi_len, by decide, fun _ => bl_len⟩
  · exact ⟨_, .t boot_int, bi_int, by decide, fun z => absurd rfl z⟩
  · exact ⟨_, .t boot_tuple, bi_tuple, by decide, fun _ => bl_tuple⟩
  · exact ⟨_, .t boot_list, bi_list, by decide, fun _ => bl_list⟩
  · exact ⟨_, .b boot_sum, bi_sum c, by decide, fun _ => bl_sum c⟩
  · exact ⟨_, .b boot_any, bi_any c, by decide, fun _ => bl_any c⟩
  · exact ⟨_, .b boot_all, bi_all c, by decide, fun _ => bl_all c⟩
  · exact ⟨_, .b boot_max, bi_max c, by decide, fun _ => bl_max c⟩
  · exact ⟨_, .b boot_min, bi_min c, by decide, fun _ => bl_min c⟩
theorem sE_bi {x : Str} {f : Value} {b : Bi} {p pos : Pos} {e : Expr} {es : List Expr} {ms : Env → Sto → R (List D)} (hf : FnAt X x f) (hb : BiOk T X W f b) (hg : L2.Gl X x) (hm : X.mg x = none) (ha : PA X (e :: es) (tA T X.K W ms))
    (hn : x ≠ "__name__") (hdb : (x == ("__debug__" : Str)) = false) (he : starEach (e :: es) X.env = (false, eval e X.env) :: starEach es X.env) (hpl : (backTo pos (starEach es X.env)).any (·.1) = false) :
    PE X (.Call (.Name x p) (e :: es) [] pos) (tE T X.K W fun env st => (ms env st).bind fun vs st1 => biV b vs st1) := by
  cases hf with
  | b hv => exact sE_biB hb hg hm hv ha hn hdb he hpl
  | t hv => exact sE_biTy hb hg hm hv ha hn hdb he hpl
theorem bmOk {m : Bm} {x : Str} (h : bmName m = some x) : ∃ id, BmOk T X W m id ∧ Slot "list" x id ∧ typeOf (.builtin id) = pure (.type "method_descriptor") := by
  cases m <;> simp only [bmName, Option.some.injEq, reduceCtorEq] at h <;> subst h
  · exact ⟨_, bm_append, F.slot_list_append, F.type_list_append⟩
  · exact ⟨_, bm_extend, F.slot_list_extend, F.type_list_extend⟩
  · exact ⟨_, bm_pop, F.slot_list_pop, F.type_list_pop⟩
theorem tyN_ok {t : Ty} {x : Str} (h : tyN t = some x) : ∃ n, tyS t = some n ∧ bootBuiltins x = some (.type n) ∧ x ≠ "__name__" := by
  cases t <;> simp only [tyN, Option.some.injEq, reduceCtorEq] at h <;> subst h
  · exact ⟨_, rfl, boot_int, by decide⟩
  · exact ⟨_, rfl, boot_bool, by decide⟩
  · exact ⟨_, rfl, boot_str, by decide⟩
  · exact ⟨_, rfl, boot_tuple, by decide⟩
  · exact ⟨_, rfl, boot_list, by decide⟩
  · exact ⟨_, rfl, boot_dict, by decide⟩
theorem tys_ok (c : Cok T G C Nm k lv X) : ∀ (ts : List Ty) (es : List Expr), chkTys Nm lv ts es = true → ∃ ns, ts.map tyS = ns.map some ∧ PA X es (tTys ns) ∧ ns.length = ts.length ∧ es.all star1 = true
  | [], es, h => by
    simp only [chkTys, List.isEmpty_iff] at h
    subst h
    exact ⟨[], rfl, pa_tyNil, rfl, rfl⟩
  | t :: ts, es, h => by
    cases es with
    | nil => simp [chkTys] at h
    | cons e es =>
      cases e with
      | Name x p =>
        simp only [chkTys, Bool.and_eq_true, decide_eq_true_eq] at h
        obtain ⟨⟨h1, h2⟩, h3⟩ := h
        obtain ⟨n, hn, hv, hne⟩ := tyN_ok h1
        obtain ⟨g1, g2, g3⟩ := c.bl h2
        obtain ⟨ns, i1, i2, i3, i4⟩ := tys_ok c ts es h3
        exact ⟨n :: ns, by simp [hn, i1], pa_tyCons (pe_tyN g1 g3 hv hne g2) i2 rfl, by simp [i3], by simp [star1, i4]⟩
      | _ => simp [chkTys] at h
end
end Hr

/-! The checker is sound: expressions. -/
namespace Hr
open PySem PySem.Spec PyProof.Rows L2
section
variable {T : Tb} {G : Pg} {C : Calls} {Nm : Names} {k : Nat} {W : WX}
theorem chkEs_star {Nm : Names} : ∀ (ms : Es) (lv : Lv) (es : List Expr), chkEs Nm ms lv es = true → es.all star1 = true
  | .nil, lv, es, h => by simp only [chkEs, List.isEmpty_iff] at h; subst h; rfl
  | .cons m ms, lv, es, h => by
    cases es with
    | nil => simp [chkEs] at h
    | cons e es =>
      simp only [chkEs, Bool.and_eq_true] at h
      simp [h.1.1, chkEs_star ms lv es h.2]
theorem chkEs_len {Nm : Names} : ∀ (ms : Es) (lv : Lv) (es : List Expr), chkEs Nm ms lv es = true → ∀ (C : Calls) env st vs st1, evEs G C ms env st = .ok vs st1 → vs.length = es.length
  | .nil, lv, es, h, C, env, st, vs, st1, e => by
    simp only [chkEs, List.isEmpty_iff] at h; subst h
    simp only [evEs, R.ok.injEq] at e
    simp [← e.1]
  | .cons m ms, lv, es, h, C, env, st, vs, st1, e => by
    cases es with
    | nil => simp [chkEs] at h
    | cons e' es =>
      simp only [chkEs, Bool.and_eq_true] at h
      simp only [evEs] at e
      cases e1 : evE G C m env st with
      | exc c xs s => rw [e1] at e; simp [R.bind] at e
      | bad => rw [e1] at e; simp [R.bind] at e
      | ok x s1 =>
        rw [e1] at e
        simp only [R.bind] at e
        cases e2 : evEs G C ms env s1 with
        | exc c xs s => rw [e2] at e; simp at e
        | bad => rw [e2] at e; simp at e
        | ok xs s2 =>
          rw [e2] at e
          simp only [R.ok.injEq] at e
          rw [← e.1]
          simp [chkEs_len ms lv es h.2 C env s1 xs s2 e2]
theorem ownP_snd (lv : Lv) (ow : List Nat) : (ownP lv ow).map (·.2) = ow := by
  unfold ownP
  rw [List.map_map]
  exact List.map_id' ow
mutual
theorem snE : ∀ (m : E) (lv : Lv) (X : Cx) (c : Cok T G C Nm k lv X) (e : Expr), chkE Nm m lv e = true → Ok3 T X W G C m e
  | .var i, lv, X, c, e, h => by
    cases e with
    | Name x p =>
      simp only [chkE, Bool.and_eq_true] at h
      obtain ⟨⟨⟨h1, h2⟩, h3⟩, h4⟩ := h
      exact .val (PE.cg (sE_var (c.slot h1) (c.vis h2) (dbg_ok h3) (cd_ok h4)) (by funext env st; first | (simp only [evE]; done) | (simp only [evE]; rfl))) rfl
    | _ => simp [chkE] at h
  | .non, lv, X, c, e, h => by
    cases e with
    | Constant v kk p =>
      cases v with
      | none => exact .val (PE.cg (sE_con pe_non fun _ _ => .non) (by funext env st; first | (simp only [evE]; done) | (simp only [evE]; rfl))) rfl
      | _ => simp [chkE] at h
    | _ => simp [chkE] at h
  | .bl b, lv, X, c, e, h => by
    cases e with
    | Constant v kk p =>
      cases v with
      | bool b' =>
        simp only [chkE, beq_iff_eq] at h
        subst h
        exact .val (PE.cg (sE_con pe_bl fun _ _ => .bl b) (by funext env st; first | (simp only [evE]; done) | (simp only [evE]; rfl))) rfl
      | _ => simp [chkE] at h
    | _ => simp [chkE] at h
  | .int b, lv, X, c, e, h => by
    cases e with
    | Constant v kk p =>
      cases v with
      | int b' =>
        simp only [chkE, decide_eq_true_eq] at h
        subst h
        exact .val (PE.cg (sE_con pe_int fun _ _ => .int b) (by funext env st; first | (simp only [evE]; done) | (simp only [evE]; rfl))) rfl
      | _ => simp [chkE] at h
    | _ => simp [chkE] at h
  | .str b, lv, X, c, e, h => by
    cases e with
    | Constant v kk p =>
      cases v with
      | str b' =>
        simp only [chkE, decide_eq_true_eq] at h
        subst h
        exact .val (PE.cg (sE_con pe_str fun _ _ => .str b) (by funext env st; first | (simp only [evE]; done) | (simp only [evE]; rfl))) rfl
      | _ => simp [chkE] at h
    | _ => simp [chkE] at h
  | .glo g, lv, X, c, e, h => by
    cases e with
    | Name x p =>
      simp only [chkE, Bool.and_eq_true, decide_eq_true_eq] at h
      obtain ⟨g1, g2⟩ := c.gl h.1
      obtain ⟨u, v, d, q1, q2, q3, q4⟩ := c.con x g h.2
      exact .val (PE.cg (sE_glo g1 q1 q2 q3 q4 g2) (by funext env st; first | (simp only [evE]; done) | (simp only [evE]; rfl))) rfl
    | _ => simp [chkE] at h
  | .fnv f, lv, X, c, e, h => by
    cases e with
    | Name x p =>
      simp only [chkE, Bool.and_eq_true, decide_eq_true_eq] at h
      obtain ⟨g1, g2⟩ := c.gl h.1
      obtain ⟨fd, ps, A⟩ := c.fnv x f h.2
      exact .val (PE.cg (sE_fnv g1 A.gm g2) (by funext env st; first | (simp only [evE]; done) | (simp only [evE]; rfl))) rfl
    | _ => simp [chkE] at h
  | .bin op a b, lv, X, c, e, h => by
    cases e with
    | BinOp x o y p =>
      simp only [chkE, Bool.and_eq_true, decide_eq_true_eq] at h
      obtain ⟨⟨rfl, h1⟩, h2⟩ := h
      obtain ⟨r, ho, hr⟩ := binR (T := T) (X := X) (W := W) op
      exact .val (PE.cg (sE_bin ho (snE a lv X c x h1).pe (snE b lv X c y h2).pe hr) (by funext env st; first | (simp only [evE]; done) | (simp only [evE]; rfl))) rfl
    | _ => simp [chkE] at h
  | .neg a, lv, X, c, e, h => by
    cases e with
    | UnaryOp op x p =>
      cases op with
      | USub =>
        simp only [chkE] at h
        exact .val (PE.cg (sE_neg (snE a lv X c x h).pe) (by funext env st; first | (simp only [evE]; done) | (simp only [evE]; rfl))) rfl
      | _ => simp [chkE] at h
    | _ => simp [chkE] at h
  | .not a, lv, X, c, e, h => by
    cases e with
    | UnaryOp op x p =>
      cases op with
      | Not =>
        simp only [chkE, Bool.and_eq_true] at h
        have i := snE a lv X c x h.1
        refine ⟨PE.cg (sE_not i.pe) (by funext env st; first | (simp only [evE]; done) | (simp only [evE]; rfl)), fun _ => PT.cg (sT_not (i.pt h.2)) ?_, fun z => by simp [boolB] at z⟩
        funext env st
        simp only [evE]
        exact (tru_not _).symm
      | _ => simp [chkE] at h
    | _ => simp [chkE] at h
  | .and a b, lv, X, c, e, h => by
    cases e with
    | BoolOp o xs p =>
      cases o with
      | And =>
        cases xs with
        | nil => simp [chkE] at h
        | cons x xs =>
          cases xs with
          | nil => simp [chkE] at h
          | cons y r =>
            simp only [chkE, Bool.and_eq_true] at h
            obtain ⟨⟨h1, h2⟩, h3⟩ := h
            have ia := snE a lv X c x h1
            have eb : (fun env st => truR (evE G C (.and a b) env st)) = fun env st => (truR (evE G C a env st)).bind fun k st1 => (match k with
              | true => truR (evE G C b env st1)
              | false => (R.ok false st1 : R Bool)) := by
              funext env st
              simp only [evE]
              cases truR (evE G C a env st) with
              | ok k st1 => cases k <;> rfl
              | exc => rfl
              | bad => rfl
            have main : PE X (.BoolOp .And (y :: r) p) (tE T X.K W (evE G C b)) ∧ PW X (.BoolOp .And (y :: r) p) (tT T X.K W fun env st => truR (evE G C b env st)) := by
              cases r with
              | nil =>
                simp only [Bool.and_eq_true] at h3
                have ib := snE b lv X c y h3.1
                exact ⟨pe_one ib.pe, pw_and1 (ib.pt h3.2)⟩
              | cons z r =>
                have ib := snE b lv X c _ h3
                exact ⟨ib.pe, ib.pw rfl⟩
            have w : PW X (.BoolOp .And (x :: y :: r) p) (tT T X.K W fun env st => truR (evE G C (.and a b) env st)) := PW.cg (sT_and (ia.pt h2) main.2) ?_
            · exact ⟨PE.cg (sE_and ia.pe main.1) (by funext env st; first | (simp only [evE]; done) | (simp only [evE]; rfl)), fun _ => w.pt, fun _ => w⟩
            · rw [eb]
              first
                | done
                | (funext env st
                   cases truR (evE G C a env st) with
                   | ok k st1 => cases k <;> rfl
                   | exc => rfl
                   | bad => rfl)
      | Or => cases xs with
        | nil => simp [chkE] at h
        | cons x xs => cases xs <;> simp [chkE] at h
    | _ => simp [chkE] at h
  | .or a b, lv, X, c, e, h => by
    cases e with
    | BoolOp o xs p =>
      cases o with
      | Or =>
        cases xs with
        | nil => simp [chkE] at h
        | cons x xs =>
          cases xs with
          | nil => simp [chkE] at h
          | cons y r =>
            simp only [chkE, Bool.and_eq_true] at h
            obtain ⟨⟨h1, h2⟩, h3⟩ := h
            have ia := snE a lv X c x h1
            have eb : (fun env st => truR (evE G C (.or a b) env st)) = fun env st => (truR (evE G C a env st)).bind fun k st1 => (match k with
              | false => truR (evE G C b env st1)
              | true => (R.ok true st1 : R Bool)) := by
              funext env st
              simp only [evE]
              cases truR (evE G C a env st) with
              | ok k st1 => cases k <;> rfl
              | exc => rfl
              | bad => rfl
            have main : PE X (.BoolOp .Or (y :: r) p) (tE T X.K W (evE G C b)) ∧ PW X (.BoolOp .Or (y :: r) p) (tT T X.K W fun env st => truR (evE G C b env st)) := by
              cases r with
              | nil =>
                simp only [Bool.and_eq_true] at h3
                have ib := snE b lv X c y h3.1
                exact ⟨pe_one ib.pe, pw_or1 (ib.pt h3.2)⟩
              | cons z r =>
                have ib := snE b lv X c _ h3
                exact ⟨ib.pe, ib.pw rfl⟩
            have w : PW X (.BoolOp .Or (x :: y :: r) p) (tT T X.K W fun env st => truR (evE G C (.or a b) env st)) := PW.cg (sT_or (ia.pt h2) main.2) ?_
            · exact ⟨PE.cg (sE_or ia.pe main.1) (by funext env st; first | (simp only [evE]; done) | (simp only [evE]; rfl)), fun _ => w.pt, fun _ => w⟩
            · rw [eb]
              first
                | done
                | (funext env st
                   cases truR (evE G C a env st) with
                   | ok k st1 => cases k <;> rfl
                   | exc => rfl
                   | bad => rfl)
      | And => cases xs with
        | nil => simp [chkE] at h
        | cons x xs => cases xs <;> simp [chkE] at h
    | _ => simp [chkE] at h
  | .cmp op a b, lv, X, c, e, h => by
    cases e with
    | Compare x os ys p =>
      match os, ys, h with
      | [o], [y], h =>
        simp only [chkE, Bool.and_eq_true, decide_eq_true_eq, Bool.not_eq_true'] at h
        obtain ⟨⟨⟨rfl, h2⟩, h3⟩, h4⟩ := h
        have ia := snE a lv X c x h3
        have ib := snE b lv X c y h4
        exact ⟨PE.cg (sE_cmp c.units ia.pe ib.pe h2) (by funext env st; first | (simp only [evE]; done) | (simp only [evE]; rfl)), fun _ => PT.cg (sT_cmp c.units ia.pe ib.pe h2) (by funext env st; first | (simp only [evE]; done) | (simp only [evE]; rfl)), fun z => by simp [boolB] at z⟩
      | [], _, h => simp [chkE] at h
      | _ :: _ :: _, _, h => simp [chkE] at h
      | [_], [], h => simp [chkE] at h
      | [_], _ :: _ :: _, h => simp [chkE] at h
    | _ => simp [chkE] at h
  | .chn op op2 a b d, lv, X, c, e, h => by
    cases e with
    | Compare x os ys p =>
      match os, ys, h with
      | [o, o2], [y, z], h =>
        simp only [chkE, Bool.and_eq_true, decide_eq_true_eq, Bool.not_eq_true'] at h
        obtain ⟨⟨⟨⟨⟨rfl, rfl⟩, h2⟩, h3⟩, h4⟩, h5⟩ := h
        have ia := snE a lv X c x h3
        have ib := snE b lv X c y h4
        have ic := snE d lv X c z h5
        refine ⟨PE.cg (sE_chn c.units ia.pe ib.pe ic.pe h2) ?_, fun _ => PT.cg (sT_chn c.units ia.pe ib.pe ic.pe h2) ?_, fun z => by simp [boolB] at z⟩ <;> (funext env st; first | (simp only [evE, chnR]; done) | (simp only [evE, chnR]; rfl))
      | [], _, h => simp [chkE] at h
      | [_], _, h => simp [chkE] at h
      | _ :: _ :: _ :: _, _, h => simp [chkE] at h
      | [_, _], [], h => simp [chkE] at h
      | [_, _], [_], h => simp [chkE] at h
      | [_, _], _ :: _ :: _ :: _, h => simp [chkE] at h
    | _ => simp [chkE] at h
  | .isN a, lv, X, c, e, h => by
    simp only [chkE] at h
    split at h
    · have ia := snE a lv X c _ h
      exact ⟨PE.cg (sE_isN ia.pe) (by funext env st; first | (simp only [evE]; done) | (simp only [evE]; rfl)), fun _ => PT.cg (sT_isN ia.pe) (by funext env st; first | (simp only [evE]; done) | (simp only [evE]; rfl)), fun z => by simp [boolB] at z⟩
    · cases h
  | .isnN a, lv, X, c, e, h => by
    simp only [chkE] at h
    split at h
    · have ia := snE a lv X c _ h
      exact ⟨PE.cg (sE_isnN ia.pe) (by funext env st; first | (simp only [evE]; done) | (simp only [evE]; rfl)), fun _ => PT.cg (sT_isnN ia.pe) (by funext env st; first | (simp only [evE]; done) | (simp only [evE]; rfl)), fun z => by simp [boolB] at z⟩
    · cases h
  | .isi a ts, lv, X, c, e, h => by
    simp only [chkE] at h
    split at h
    · rename_i f p1 x y p2
      simp only [Bool.and_eq_true, decide_eq_true_eq] at h
      obtain ⟨⟨⟨⟨rfl, h2⟩, h3⟩, h4⟩, h5⟩ := h
      obtain ⟨g1, g2, g3⟩ := c.bl h2
      have ia := snE a lv X c x h4
      split at h5
      · simp only [Bool.and_eq_true, decide_eq_true_eq, Bool.not_eq_true', List.isEmpty_eq_false_iff] at h5
        obtain ⟨⟨q1, q2⟩, q3⟩ := h5
        obtain ⟨ns, i1, i2, i3, i4⟩ := tys_ok c ts _ q1
        exact .val (PE.cg (sE_isiT (G := G) i1 q2 (by rw [i3]; exact q3) ia.pe i2 g1 g3 (star1_ok h3) rfl) (by funext env st; first | (simp only [evE]; done) | (simp only [evE]; rfl))) rfl
      · split at h5
        · rename_i x2 p3 t
          simp only [chkTys, Bool.and_eq_true, decide_eq_true_eq] at h5
          obtain ⟨n, hn, hv, hne⟩ := tyN_ok h5.1.1
          obtain ⟨k1, k2, k3⟩ := c.bl h5.1.2
          exact .val (PE.cg (sE_isi1 (G := G) hn ia.pe (pe_tyN k1 k3 hv hne k2) g1 g3 (star1_ok h3) rfl) (by funext env st; first | (simp only [evE]; done) | (simp only [evE]; rfl))) rfl
        · cases h5
      · cases h5
    · cases h
  | .ite q a b, lv, X, c, e, h => by
    cases e with
    | IfExp x y z p =>
      simp only [chkE, Bool.and_eq_true] at h
      obtain ⟨⟨⟨h1, h2⟩, h3⟩, h4⟩ := h
      refine ⟨PE.cg (sE_ite ((snE q lv X c x h1).pt h2) (snE a lv X c y h3).pe (snE b lv X c z h4).pe) ?_, fun z => by simp [ptB] at z, fun z => by simp [boolB] at z⟩
      funext env st
      first | (simp only [evE]; done) | (simp only [evE]; rfl)
    | _ => simp [chkE] at h
  | .idx a b, lv, X, c, e, h => by
    cases e with
    | Subscript x y p =>
      simp only [chkE, Bool.and_eq_true] at h
      exact .val (PE.cg (sE_idx (snE a lv X c x h.1.2).pe (snE b lv X c y h.2).pe (plainIx_ok h.1.1)) (by funext env st; first | (simp only [evE]; done) | (simp only [evE]; rfl))) rfl
    | _ => simp [chkE] at h
  | .sli a lo hi, lv, X, c, e, h => by
    simp only [chkE] at h
    split at h
    · rename_i x l u p2 p
      simp only [Bool.and_eq_true] at h
      exact .val (PE.cg (sE_sli (snE a lv X c x h.1.1).pe (snO lo lv X c l h.1.2) (snO hi lv X c u h.2)) (by funext env st; first | (simp only [evE]; done) | (simp only [evE]; rfl))) rfl
    · cases h
  | .srev a, lv, X, c, e, h => by simp [chkE] at h
  | .sstep a b d, lv, X, c, e, h => by simp [chkE] at h
  | .tup es, lv, X, c, e, h => by
    cases e with
    | Tuple xs kk p =>
      simp only [chkE] at h
      exact .val (PE.cg (sE_tup (snEs es lv X c xs h)) (by funext env st; first | (simp only [evE]; done) | (simp only [evE]; rfl))) rfl
    | _ => simp [chkE] at h
  | .lst es, lv, X, c, e, h => by
    cases e with
    | List xs p =>
      simp only [chkE] at h
      exact .val (PE.cg (sE_lst (snEs es lv X c xs h)) (by funext env st; first | (simp only [evE]; done) | (simp only [evE]; rfl))) rfl
    | _ => simp [chkE] at h
  | .dct es, lv, X, c, e, h => by simp [chkE] at h
  | .call f es, lv, X, c, e, h => by
    cases e with
    | Call fn xs ks p =>
      cases fn with
      | Name x p2 =>
        cases ks with
        | cons _ _ => simp [chkE] at h
        | nil =>
          simp only [chkE, Bool.and_eq_true, decide_eq_true_eq] at h
          obtain ⟨⟨h1, h2⟩, h3⟩ := h
          obtain ⟨g1, g2⟩ := c.gl h1
          obtain ⟨fd, ps, A⟩ := c.fnv x f h2
          have ie := snEs es lv X c xs h3
          cases xs with
          | nil =>
            cases es with
            | nil => exact .val (PE.cg (sE_call0 A c.room g1 g2) (by funext env st; simp only [evE, evEs])) rfl
            | cons _ _ => simp [chkEs] at h3
          | cons y ys =>
            have hs := chkEs_star es lv _ h3
            simp only [List.all_cons, Bool.and_eq_true] at hs
            exact .val (PE.cg (sE_call A c.room g1 ie g2 (star1_ok hs.1) (starsB_ok hs.2)) (by funext env st; first | (simp only [evE]; done) | (simp only [evE]; rfl))) rfl
      | _ => simp [chkE] at h
    | _ => simp [chkE] at h
  | .callv i es, lv, X, c, e, h => by
    cases e with
    | Call fn xs ks p =>
      cases fn with
      | Name x p2 =>
        cases ks with
        | cons _ _ => cases xs <;> simp [chkE] at h
        | nil =>
          cases xs with
          | nil => simp [chkE] at h
          | cons y ys =>
            simp only [chkE, Bool.and_eq_true] at h
            obtain ⟨⟨⟨⟨h1, h2⟩, h3⟩, h4⟩, h5⟩ := h
            have hs := chkEs_star es lv _ h5
            simp only [List.all_cons, Bool.and_eq_true] at hs
            exact .val (PE.cg (sE_callv c.all c.room (c.slot h1) (c.vis h2) (snEs es lv X c _ h5) (dbg_ok h3) (cd_ok h4) (star1_ok hs.1) (starsB_ok hs.2)) (by funext env st; first | (simp only [evE]; done) | (simp only [evE]; rfl))) rfl
      | _ => simp [chkE] at h
    | _ => simp [chkE] at h
  | .meth a m es, lv, X, c, e, h => by simp [chkE] at h
  | .make a es, lv, X, c, e, h => by simp [chkE] at h
  | .fld a f, lv, X, c, e, h => by simp [chkE] at h
  | .bi b es, lv, X, c, e, h => by
    cases e with
    | Call fn xs ks p =>
      cases fn with
      | Name x p2 =>
        cases ks with
        | cons _ _ => cases xs <;> simp [chkE] at h
        | nil =>
          cases xs with
          | nil => simp [chkE] at h
          | cons y ys =>
            simp only [chkE, Bool.and_eq_true, decide_eq_true_eq] at h
            obtain ⟨⟨h1, h2⟩, h3⟩ := h
            obtain ⟨g1, g2, g3⟩ := c.bl h2
            obtain ⟨f, q1, q2, q3, q4⟩ := biOk (T := T) (X := X) (W := W) c.calm h1
            have hs := chkEs_star es lv _ h3
            simp only [List.all_cons, Bool.and_eq_true] at hs
            exact .val (PE.cg (sE_bi q1 q2 g1 g3 (snEs es lv X c _ h3) q3 g2 (star1_ok hs.1) (starsB_ok hs.2)) (by funext env st; first | (simp only [evE]; done) | (simp only [evE]; rfl))) rfl
      | _ => simp [chkE] at h
    | _ => simp [chkE] at h
  | .bm m a es, lv, X, c, e, h => by
    cases e with
    | Call fn xs ks p =>
      cases fn with
      | Attribute o x ap =>
        cases ks with
        | cons _ _ => simp [chkE] at h
        | nil =>
          simp only [chkE, Bool.and_eq_true, decide_eq_true_eq] at h
          obtain ⟨⟨⟨⟨⟨h1, h2⟩, h3⟩, h4⟩, h5⟩, h6⟩ := h
          obtain ⟨id, q1, q2, q3⟩ := bmOk (T := T) (X := X) (W := W) h1
          have io := snE a lv X c o h5
          have ie := snEs es lv X c xs h6
          have hs := chkEs_star es lv _ h6
          cases xs with
          | nil =>
            cases es with
            | nil => exact .val (PE.cg (sE_bm0 q1 q2 q3 io.pe (base_ok h2) h3) (by funext env st; simp only [evE, evEs])) rfl
            | cons _ _ => simp [chkEs] at h6
          | cons y ys =>
            simp only [List.all_cons, Bool.and_eq_true] at hs
            refine .val (PE.cg (sE_bm q1 q2 q3 io.pe ie (base_ok h2) ?_ h3 (star1_ok hs.1) (starsB_ok hs.2)) (by funext env st; first | (simp only [evE]; done) | (simp only [evE]; rfl))) rfl
            have e1 := starsA_ok (es := y :: ys) (env := X.env) (pos := p) (by simp [hs])
            rw [e1]
            have e2 : ((y :: ys).length + ([] : List Keyword).length + (if ([] : List Keyword).isEmpty then 0 else 1)) < 30 := by simp at h4 ⊢; omega
            simp only [e2, decide_true, Bool.and_true]
            rfl
      | _ => simp [chkE] at h
    | _ => simp [chkE] at h
  | .lc elt (.one ow t it cond), lv, X, c, e, h => by
    simp only [chkE] at h
    split at h
    · rename_i x gs sc p
      simp only [chkC, Bool.and_eq_true] at h
      obtain ⟨h0, he⟩ := h
      split at h0
      · rename_i tg iter ifs
        simp only [Bool.and_eq_true, List.all_eq_true, decide_eq_true_eq] at h0
        obtain ⟨⟨⟨⟨⟨h1, h2⟩, h3⟩, h4⟩, h5⟩, h6⟩ := h0
        have ok : BlkOk X.N X.env.scope sc (ownP lv ow) := by rw [c.N, c.sc]; exact blkOk_by h1
        have kk := fun (s : Shared) (H : Hp) (A : Addr) (cl : List (Str × Addr)) (fp : List Addr) => c.blk ok.kind s H A cl fp
        have hg : Blk X (fun Y => PG Y tg (tG T X.K t.slots (asgT t))) sc := fun s H A cl fp => snG (kk s H A cl fp) t tg h5
        have ht : Blk X (fun Y => PTs Y ifs (tT T X.K W (evT G C cond))) sc := fun s H A cl fp => snIf cond (lv.blk sc) _ (kk s H A cl fp) ifs h6
        have hel : Blk X (fun Y => PE Y x (tE T X.K W (evE G C elt))) sc := fun s H A cl fp => (snE elt (lv.blk sc) _ (kk s H A cl fp) x he).pe
        exact .val (PE.cg (sE_lc (ownP_snd lv ow) h2 c.calm c.nd (snI it lv X c tg iter h4) ok hg ht hel (folded_ok h3 _)) (by funext env st; simp only [evE, evCl])) rfl
      · cases h0
    · cases h
  | .lc elt (.two ow t it cond t2 it2 cond2), lv, X, c, e, h => by
    simp only [chkE] at h
    split at h
    · rename_i x gs sc p
      simp only [chkC, Bool.and_eq_true] at h
      obtain ⟨h0, he⟩ := h
      split at h0
      · rename_i tg iter ifs tg2 iter2 ifs2
        simp only [Bool.and_eq_true, List.all_eq_true, decide_eq_true_eq] at h0
        obtain ⟨⟨⟨⟨⟨⟨⟨⟨⟨⟨h1, h2⟩, h2b⟩, h3⟩, h3b⟩, h4⟩, h5⟩, h6⟩, h7⟩, h8⟩, h9⟩ := h0
        have ok : BlkOk X.N X.env.scope sc (ownP lv ow) := by rw [c.N, c.sc]; exact blkOk_by h1
        have kk := fun (s : Shared) (H : Hp) (A : Addr) (cl : List (Str × Addr)) (fp : List Addr) => c.blk ok.kind s H A cl fp
        have hg : Blk X (fun Y => PG Y tg (tG T X.K t.slots (asgT t))) sc := fun s H A cl fp => snG (kk s H A cl fp) t tg h5
        have ht : Blk X (fun Y => PTs Y ifs (tT T X.K W (evT G C cond))) sc := fun s H A cl fp => snIf cond (lv.blk sc) _ (kk s H A cl fp) ifs h6
        have hi2 : Blk X (fun Y => PI Y tg2 iter2 (tI T X.K W (evI G C it2))) sc := fun s H A cl fp => snI it2 (lv.blk sc) _ (kk s H A cl fp) tg2 iter2 h7
        have hg2 : Blk X (fun Y => PG Y tg2 (tG T X.K t2.slots (asgT t2))) sc := fun s H A cl fp => snG (kk s H A cl fp) t2 tg2 h8
        have ht2 : Blk X (fun Y => PTs Y ifs2 (tT T X.K W (evT G C cond2))) sc := fun s H A cl fp => snIf cond2 (lv.blk sc) _ (kk s H A cl fp) ifs2 h9
        have hel : Blk X (fun Y => PE Y x (tE T X.K W (evE G C elt))) sc := fun s H A cl fp => (snE elt (lv.blk sc) _ (kk s H A cl fp) x he).pe
        exact .val (PE.cg (sE_lc2 (ownP_snd lv ow) h2 h2b c.calm c.nd (snI it lv X c tg iter h4) ok hg ht hi2 hg2 ht2 hel (folded_ok h3 _) (folded_ok h3b)) (by funext env st; simp only [evE, evCl])) rfl
      · cases h0
    · cases h
  | .fz b elt (.one ow t it cond), lv, X, c, e, h => by
    simp only [chkE] at h
    split at h
    · rename_i f p1 x gs sc p p2
      simp only [chkC, Bool.and_eq_true, decide_eq_true_eq] at h
      obtain ⟨⟨⟨⟨hni, hb⟩, hbl⟩, h0⟩, he⟩ := h
      obtain ⟨g1, g2, g3⟩ := c.bl hbl
      have hbi : b ≠ .int := by rintro rfl; simp at hni
      obtain ⟨fv, q1, q2, q3, q4⟩ := biOk (T := T) (X := X) (W := W) c.calm hb
      split at h0
      · rename_i tg iter ifs
        simp only [Bool.and_eq_true, List.all_eq_true, decide_eq_true_eq] at h0
        obtain ⟨⟨⟨⟨⟨h1, h2⟩, h3⟩, h4⟩, h5⟩, h6⟩ := h0
        have ok : BlkOk X.N X.env.scope sc (ownP lv ow) := by rw [c.N, c.sc]; exact blkOk_by h1
        have kk := fun (s : Shared) (H : Hp) (A : Addr) (cl : List (Str × Addr)) (fp : List Addr) => c.blk ok.kind s H A cl fp
        have hg : Blk X (fun Y => PG Y tg (tG T X.K t.slots (asgT t))) sc := fun s H A cl fp => snG (kk s H A cl fp) t tg h5
        have ht : Blk X (fun Y => PTs Y ifs (tT T X.K W (evT G C cond))) sc := fun s H A cl fp => snIf cond (lv.blk sc) _ (kk s H A cl fp) ifs h6
        have hel : Blk X (fun Y => PE Y x (tE T X.K W (evE G C elt))) sc := fun s H A cl fp => (snE elt (lv.blk sc) _ (kk s H A cl fp) x he).pe
        exact .val (PE.cg (sE_fz (q4 hbi) q1 g1 g3 q3 g2 (ownP_snd lv ow) h2 c.calm c.nd (snI it lv X c tg iter h4) ok hg ht hel (folded_ok h3 _)) (by funext env st; simp only [evE, evCl])) rfl
      · cases h0
    · cases h
  | .fz b elt (.two ow t it cond t2 it2 cond2), lv, X, c, e, h => by
    simp only [chkE] at h
    split at h
    · rename_i f p1 x gs sc p p2
      simp only [chkC, Bool.and_eq_true, decide_eq_true_eq] at h
      obtain ⟨⟨⟨⟨hni, hb⟩, hbl⟩, h0⟩, he⟩ := h
      obtain ⟨g1, g2, g3⟩ := c.bl hbl
      have hbi : b ≠ .int := by rintro rfl; simp at hni
      obtain ⟨fv, q1, q2, q3, q4⟩ := biOk (T := T) (X := X) (W := W) c.calm hb
      split at h0
      · rename_i tg iter ifs tg2 iter2 ifs2
        simp only [Bool.and_eq_true, List.all_eq_true, decide_eq_true_eq] at h0
        obtain ⟨⟨⟨⟨⟨⟨⟨⟨⟨⟨h1, h2⟩, h2b⟩, h3⟩, h3b⟩, h4⟩, h5⟩, h6⟩, h7⟩, h8⟩, h9⟩ := h0
        have ok : BlkOk X.N X.env.scope sc (ownP lv ow) := by rw [c.N, c.sc]; exact blkOk_by h1
        have kk := fun (s : Shared) (H : Hp) (A : Addr) (cl : List (Str × Addr)) (fp : List Addr) => c.blk ok.kind s H A cl fp
        have hg : Blk X (fun Y => PG Y tg (tG T X.K t.slots (asgT t))) sc := fun s H A cl fp => snG (kk s H A cl fp) t tg h5
        have ht : Blk X (fun Y => PTs Y ifs (tT T X.K W (evT G C cond))) sc := fun s H A cl fp => snIf cond (lv.blk sc) _ (kk s H A cl fp) ifs h6
        have hi2 : Blk X (fun Y => PI Y tg2 iter2 (tI T X.K W (evI G C it2))) sc := fun s H A cl fp => snI it2 (lv.blk sc) _ (kk s H A cl fp) tg2 iter2 h7
        have hg2 : Blk X (fun Y => PG Y tg2 (tG T X.K t2.slots (asgT t2))) sc := fun s H A cl fp => snG (kk s H A cl fp) t2 tg2 h8
        have ht2 : Blk X (fun Y => PTs Y ifs2 (tT T X.K W (evT G C cond2))) sc := fun s H A cl fp => snIf cond2 (lv.blk sc) _ (kk s H A cl fp) ifs2 h9
        have hel : Blk X (fun Y => PE Y x (tE T X.K W (evE G C elt))) sc := fun s H A cl fp => (snE elt (lv.blk sc) _ (kk s H A cl fp) x he).pe
        exact .val (PE.cg (sE_fz2 (q4 hbi) q1 g1 g3 q3 g2 (ownP_snd lv ow) h2 h2b c.calm c.nd (snI it lv X c tg iter h4) ok hg ht hi2 hg2 ht2 hel (folded_ok h3 _) (folded_ok h3b)) (by funext env st; simp only [evE, evCl])) rfl
      · cases h0
    · cases h
  | .fzd b elt cl d, lv, X, c, e, h => by simp [chkE] at h
  | .ssc elt cl, lv, X, c, e, h => by simp [chkE] at h
  | .dc a b cl, lv, X, c, e, h => by simp [chkE] at h
  | .lam l cs, lv, X, c, e, h => by simp [chkE] at h
theorem snEs : ∀ (ms : Es) (lv : Lv) (X : Cx) (c : Cok T G C Nm k lv X) (es : List Expr), chkEs Nm ms lv es = true → PA X es (tA T X.K W (evEs G C ms))
  | .nil, lv, X, c, es, h => by
    simp only [chkEs, List.isEmpty_iff] at h
    subst h
    exact PA.cg sA_nil (by funext env st; first | (simp only [evEs]; done) | (simp only [evEs]; rfl))
  | .cons m ms, lv, X, c, es, h => by
    cases es with
    | nil => simp [chkEs] at h
    | cons e es =>
      simp only [chkEs, Bool.and_eq_true] at h
      exact PA.cg (sA_cons (snE m lv X c e h.1.2).pe (snEs ms lv X c es h.2) (star1_ok h.1.1)) (by funext env st; first | (simp only [evEs]; done) | (simp only [evEs]; rfl))
theorem snI : ∀ (i : I) (lv : Lv) (X : Cx) (c : Cok T G C Nm k lv X) (tg e : Expr), chkI Nm i lv tg e = true → PI X tg e (tI T X.K W (evI G C i))
  | .ex m, lv, X, c, tg, e, h => by
    simp only [chkI] at h
    exact PI.cg (sI_ex (snE m lv X c e h).pe) (by funext env st; first | (simp only [evI]; done) | (simp only [evI]; rfl))
  | .rng es, lv, X, c, tg, e, h => by
    simp only [chkI] at h
    split at h
    · rename_i x p1 xs p2
      simp only [Bool.and_eq_true, decide_eq_true_eq] at h
      obtain ⟨⟨⟨rfl, h2⟩, h3⟩, h4⟩ := h
      obtain ⟨g1, g2, g3⟩ := c.bl h2
      have ie := snEs es lv X c xs h3
      have hs := chkEs_star es lv _ h3
      have hl := chkEs_len (G := G) es lv _ h3 C
      match xs, h4, ie, hs, hl with
      | [a], _, ie, hs, hl =>
        simp only [List.all_cons, Bool.and_eq_true] at hs
        exact PI.cg (sI_rng1 g1 g3 ie (star1_ok hs.1) hl) (by funext env st; first | (simp only [evI]; done) | (simp only [evI]; rfl))
      | [a, b], _, ie, hs, hl =>
        simp only [List.all_cons, Bool.and_eq_true] at hs
        exact PI.cg (sI_rng2 g1 g3 ie (star1_ok hs.1) (star1_ok hs.2.1) hl) (by funext env st; first | (simp only [evI]; done) | (simp only [evI]; rfl))
      | [], h4, _, _, _ => simp at h4
      | _ :: _ :: _ :: _, h4, _, _, _ => simp at h4
    · cases h
  | .enum m, lv, X, c, tg, e, h => by
    simp only [chkI] at h
    split at h
    · rename_i x p1 y p2
      simp only [Bool.and_eq_true, decide_eq_true_eq] at h
      obtain ⟨⟨⟨⟨rfl, h2⟩, h3⟩, h4⟩, h5⟩ := h
      obtain ⟨g1, g2, g3⟩ := c.bl h2
      split at h5
      · exact PI.cg (sI_enum g1 g3 (snE m lv X c y h4).pe (star1_ok h3)) (by funext env st; first | (simp only [evI]; done) | (simp only [evI]; rfl))
      · cases h5
    · cases h
  | .zip a b, lv, X, c, tg, e, h => by simp [chkI] at h
  | .items m, lv, X, c, tg, e, h => by simp [chkI] at h
  | .values m, lv, X, c, tg, e, h => by simp [chkI] at h
theorem snO : ∀ (ms : Es) (lv : Lv) (X : Cx) (c : Cok T G C Nm k lv X) (o : Option Expr), chkO Nm ms lv o = true → PO X o (tX T X.K RO W fun env st => intO (evEs G C ms env st))
  | .nil, lv, X, c, o, h => by
    simp only [chkO, Option.isNone_iff_eq_none] at h
    subst h
    have e : (fun env st => intO (evEs G C .nil env st)) = fun (_ : Env) st => R.ok none st := by
      funext env st
      simp only [evEs]; rfl
    rw [e]
    exact sO_none
  | .cons m ms, lv, X, c, o, h => by
    cases ms with
    | cons _ _ => simp [chkO] at h
    | nil =>
      cases o with
      | none => simp [chkO] at h
      | some e =>
        simp only [chkO] at h
        have e2 : (fun env st => intO (evEs G C (.cons m .nil) env st)) = fun env st => intO ((evE G C m env st).bind fun x st1 => (R.ok (α := List D) [] st1).bind fun xs st2 => .ok (x :: xs) st2) := by
          funext env st
          simp only [evEs]
        rw [e2]
        exact sO_some (snE m lv X c e h).pe
theorem snIf : ∀ (ms : Es) (lv : Lv) (X : Cx) (c : Cok T G C Nm k lv X) (es : List Expr), chkIf Nm ms lv es = true → PTs X es (tT T X.K W (evT G C ms))
  | .nil, lv, X, c, es, h => by
    simp only [chkIf, List.isEmpty_iff] at h
    subst h
    have e : evT G C .nil = fun _ st => .ok true st := by funext env st; simp only [evT]
    rw [e]
    exact sTs_nil
  | .cons m ms, lv, X, c, es, h => by
    cases ms with
    | cons _ _ => simp [chkIf] at h
    | nil =>
      cases es with
      | nil => simp [chkIf] at h
      | cons e es =>
        cases es with
        | cons _ _ => simp [chkIf] at h
        | nil =>
          simp only [chkIf, Bool.and_eq_true] at h
          have i := sTs_one ((snE m lv X c e h.1).pt h.2)
          have e2 : evT G C (.cons m .nil) = fun env st => (truR (evE G C m env st)).bind fun k st1 => (match k with
            | true => (R.ok true st1 : R Bool)
            | false => .ok false st1) := by
            funext env st
            first | (simp only [evT]; done) | (simp only [evT]; rfl)
          rw [e2]
          exact i
end
end
end Hr

/-! The checker is sound: statements. -/
namespace Hr
open PySem PySem.Spec PyProof.Rows L2
section
variable {T : Tb} {G : Pg} {C : Calls} {Nm : Names} {k : Nat} {W : WX}
theorem kindOf_eq (env : PySem.Env) : env.kindOf = fun x => env.scope.names.lookup x := rfl
theorem asg_sn {t : Hr.T} {m : E} {lv : Lv} {X : Cx} (c : Cok T G C Nm k lv X) {tgs : List Expr} {v : Expr} {p : Pos} (h : chkA Nm lv t m tgs v p.line = true) : PS X (.Assign tgs v p) (tS T X.K W (exS G C (.asg t m))) := by
  have plain : ∀ tg, star1 tg = true → chkG lv t tg = true → chkE Nm m lv v = true → swapsWithSole [tg] v p.line X.env = pure false → swappedStores [tg] v X.env = pure none → PS X (.Assign [tg] v p) (tS T X.K W (exS G C (.asg t m))) := fun tg h1 h2 h3 h4 h5 =>
    PS.cg (sS_asg (snE m lv X c v h3).pe (snG c t tg h2) h4 h5 (asg1_ok h1)) (by funext env st; first | (simp only [exS]; done) | (simp only [exS]; rfl))
  unfold chkA at h
  split at h
  · rename_i tg
    split at h
    · -- a comprehension
      rename_i x gs sc q
      split at h
      · rename_i i y py
        simp only [Bool.and_eq_true, Bool.not_eq_true'] at h
        obtain ⟨⟨⟨⟨h1, h2⟩, h3⟩, h4⟩, h5⟩ := h
        split at h5
        · rename_i elt cl
          simp only [Bool.and_eq_true] at h5
          obtain ⟨h0, he⟩ := h5
          have hsw := sw_true (elt := x) (gs := gs) (scope := sc) (pos := q) (py := py) (y := y) (l := p.line) (env := X.env) c.kind (c.kd h2) h3 h4
          cases cl with
          | one ow t it cond =>
            simp only [chkC] at h0
            split at h0
            · rename_i tg iter ifs
              simp only [Bool.and_eq_true, List.all_eq_true, decide_eq_true_eq] at h0
              obtain ⟨⟨⟨⟨⟨h1', h2'⟩, h3'⟩, h4'⟩, h5'⟩, h6'⟩ := h0
              have ok : BlkOk X.N X.env.scope sc (ownP lv ow) := by rw [c.N, c.sc]; exact blkOk_by h1'
              have kk := fun (s : Shared) (H : Hp) (A : Addr) (cl : List (Str × Addr)) (fp : List Addr) => c.blk ok.kind s H A cl fp
              have hg : Blk X (fun Y => PG Y tg (tG T X.K t.slots (asgT t))) sc := fun s H A cl fp => snG (kk s H A cl fp) t tg h5'
              have ht : Blk X (fun Y => PTs Y ifs (tT T X.K W (evT G C cond))) sc := fun s H A cl fp => snIf cond (lv.blk sc) _ (kk s H A cl fp) ifs h6'
              have hel : Blk X (fun Y => PE Y x (tE T X.K W (evE G C elt))) sc := fun s H A cl fp => (snE elt (lv.blk sc) _ (kk s H A cl fp) x he).pe
              exact PS.cg (sS_setLc (ownP_snd lv ow) h2' c.calm c.nd (c.slot h1) (c.kd h2) hsw (snI it lv X c tg iter h4') ok hg ht hel (folded_ok h3' _)) (by funext env st; first | (simp only [exS, evE, evCl]; done) | (simp only [exS, evE, evCl]; rfl))
            · cases h0
          | two ow t it cond t2 it2 cond2 =>
            simp only [chkC] at h0
            split at h0
            · rename_i tg iter ifs tg2 iter2 ifs2
              simp only [Bool.and_eq_true, List.all_eq_true, decide_eq_true_eq] at h0
              obtain ⟨⟨⟨⟨⟨⟨⟨⟨⟨⟨h1', h2'⟩, h2b⟩, h3'⟩, h3b⟩, h4'⟩, h5'⟩, h6'⟩, h7⟩, h8⟩, h9⟩ := h0
              have ok : BlkOk X.N X.env.scope sc (ownP lv ow) := by rw [c.N, c.sc]; exact blkOk_by h1'
              have kk := fun (s : Shared) (H : Hp) (A : Addr) (cl : List (Str × Addr)) (fp : List Addr) => c.blk ok.kind s H A cl fp
              have hg : Blk X (fun Y => PG Y tg (tG T X.K t.slots (asgT t))) sc := fun s H A cl fp => snG (kk s H A cl fp) t tg h5'
              have ht : Blk X (fun Y => PTs Y ifs (tT T X.K W (evT G C cond))) sc := fun s H A cl fp => snIf cond (lv.blk sc) _ (kk s H A cl fp) ifs h6'
              have hi2 : Blk X (fun Y => PI Y tg2 iter2 (tI T X.K W (evI G C it2))) sc := fun s H A cl fp => snI it2 (lv.blk sc) _ (kk s H A cl fp) tg2 iter2 h7
              have hg2 : Blk X (fun Y => PG Y tg2 (tG T X.K t2.slots (asgT t2))) sc := fun s H A cl fp => snG (kk s H A cl fp) t2 tg2 h8
              have ht2 : Blk X (fun Y => PTs Y ifs2 (tT T X.K W (evT G C cond2))) sc := fun s H A cl fp => snIf cond2 (lv.blk sc) _ (kk s H A cl fp) ifs2 h9
              have hel : Blk X (fun Y => PE Y x (tE T X.K W (evE G C elt))) sc := fun s H A cl fp => (snE elt (lv.blk sc) _ (kk s H A cl fp) x he).pe
              exact PS.cg (sS_setLc2 (ownP_snd lv ow) h2' h2b c.calm c.nd (c.slot h1) (c.kd h2) hsw (snI it lv X c tg iter h4') ok hg ht hi2 hg2 ht2 hel (folded_ok h3' _) (folded_ok h3b)) (by funext env st; first | (simp only [exS, evE, evCl]; done) | (simp only [exS, evE, evCl]; rfl))
            · cases h0
        · cases h5
      · cases h
    · -- a tuple
      rename_i vs kk q
      split at h
      · rename_i ts k2 q2
        split at h
        · rename_i e
          simp only [Bool.and_eq_true] at h
          exact plain _ h.1.2 h.1.1 h.2 rfl (swP_ok c.kind (by rw [kindOf_eq, c.sc]; exact e))
        · split at h
          · rename_i i j x p1 y p2 a b es e
            simp only [Bool.and_eq_true, decide_eq_true_eq] at h
            obtain ⟨⟨⟨⟨⟨⟨h1, h2⟩, h3⟩, h4⟩, h5⟩, h6⟩, h7⟩ := h
            exact PS.cg (sS_par2 c.calm c.nd (c.slot h1) (c.slot h2) h3 (c.kd h4) (c.kd h5) (snEs es lv X c _ h7) (swP_ok c.kind (by rw [kindOf_eq, c.sc]; exact h6)) rfl) (by funext env st; first | (simp only [exS, evE]; done) | (simp only [exS, evE]; rfl))
          · rename_i i j l x p1 y p2 z p3 a b d es e
            simp only [Bool.and_eq_true, decide_eq_true_eq] at h
            obtain ⟨⟨⟨⟨⟨⟨⟨⟨⟨⟨h1, h2⟩, h3⟩, h4⟩, h5⟩, h6⟩, h7⟩, h8⟩, h9⟩, h10⟩, h11⟩ := h
            exact PS.cg (sS_par3 c.calm c.nd (c.slot h1) (c.slot h2) (c.slot h3) h4 h5 h6 (c.kd h7) (c.kd h8) (c.kd h9) (snEs es lv X c _ h11) (swP_ok c.kind (by rw [kindOf_eq, c.sc]; exact h10)) rfl) (by funext env st; first | (simp only [exS, evE]; done) | (simp only [exS, evE]; rfl))
          · cases h
        · cases h
      · simp only [Bool.and_eq_true] at h
        exact plain _ rfl h.1 h.2 rfl rfl
      · cases h
    · simp only [Bool.and_eq_true] at h
      obtain ⟨⟨⟨⟨h1, h2⟩, h3⟩, h4⟩, h5⟩ := h
      exact plain _ h3 h4 h5 (swaps_ok h2) (stores_ok h1)
  · cases h
mutual
theorem snS : ∀ (m : S) (lv : Lv) (X : Cx) (c : Cok T G C Nm k lv X) (s : Stmt), chkS Nm m lv s = true → PS X s (tS T X.K W (exS G C m))
  | .asg t m, lv, X, c, s, h => by
    simp only [chkS] at h
    split at h
    · exact asg_sn c h
    · cases h
  | .seti a i m, lv, X, c, s, h => by
    simp only [chkS] at h
    split at h
    · rename_i x y tp v p
      simp only [Bool.and_eq_true] at h
      obtain ⟨⟨⟨⟨⟨h1, h2⟩, h3⟩, h4⟩, h5⟩, h6⟩ := h
      exact PS.cg (sS_seti (snE a lv X c x h4).pe (snE i lv X c y h5).pe (snE m lv X c v h6).pe set_list (show swapsWith v (some (.Subscript x y tp)) p.line X.env = pure false from swaps_ok h2) (stores_ok h1) rfl (asgsub_ok h3)) (by funext env st; first | (simp only [exS]; done) | (simp only [exS]; rfl))
    · cases h
  | .setf a f m, lv, X, c, s, h => by simp [chkS] at h
  | .aug i op m, lv, X, c, s, h => by
    simp only [chkS] at h
    split at h
    · rename_i x tp o v p
      simp only [Bool.and_eq_true, decide_eq_true_eq] at h
      obtain ⟨⟨⟨h1, h2⟩, rfl⟩, h4⟩ := h
      obtain ⟨l1, l2⟩ := c.loc h2
      exact PS.cg (sS_aug c.nd (c.slot h1) l1 (snE m lv X c v h4).pe l2) (by funext env st; first | (simp only [exS]; done) | (simp only [exS]; rfl))
    · cases h
  | .augi a i op m, lv, X, c, s, h => by simp [chkS] at h
  | .augf a f op m, lv, X, c, s, h => by simp [chkS] at h
  | .expr m, lv, X, c, s, h => by
    simp only [chkS] at h
    split at h
    · simp only [Bool.and_eq_true] at h
      exact PS.cg (sS_expr (snE m lv X c _ h.2).pe (swaps_ok h.1)) (by funext env st; first | (simp only [exS]; done) | (simp only [exS]; rfl))
    · cases h
  | .ret m, lv, X, c, s, h => by
    simp only [chkS] at h
    split at h
    · exact PS.cg (sS_ret (snE m lv X c _ h).pe) (by funext env st; first | (simp only [exS]; done) | (simp only [exS]; rfl))
    · cases h
  | .retN, lv, X, c, s, h => by
    simp only [chkS] at h
    split at h
    · exact PS.cg sS_retN (by funext env st; first | (simp only [exS]; done) | (simp only [exS]; rfl))
    · cases h
  | .iff q a b, lv, X, c, s, h => by
    simp only [chkS] at h
    split at h
    · rename_i x y z p
      simp only [Bool.and_eq_true] at h
      obtain ⟨⟨⟨h1, h2⟩, h3⟩, h4⟩ := h
      exact PS.cg (sS_iff ((snE q lv X c x h1).pt h2) (snSs a lv X c y h3) (snSs b lv X c z h4)) (by funext env st; first | (simp only [exS]; done) | (simp only [exS]; rfl))
    · cases h
  | .forr t it b, lv, X, c, s, h => by
    simp only [chkS] at h
    split at h
    · rename_i tg iter body p
      simp only [Bool.and_eq_true] at h
      obtain ⟨⟨⟨h1, h2⟩, h3⟩, h4⟩ := h
      exact PS.cg (sS_for (by rw [c.xe]; exact PassesOwn.never) c.calm (snI it lv X c tg iter h2) (snG c t tg h3) (snSs b lv X c body h4) (folded_ok h1 _)) (by funext env st; first | (simp only [exS]; done) | (simp only [exS]; rfl))
    · cases h
  | .whil q b, lv, X, c, s, h => by
    simp only [chkS] at h
    split at h
    · rename_i x body p
      simp only [Bool.and_eq_true] at h
      obtain ⟨⟨h1, h2⟩, h3⟩ := h
      exact PS.cg (sS_while (by rw [c.xe]; exact PassesOwn.never) ((snE q lv X c x h1).pt h2) (snSs b lv X c body h3)) (by funext env st; first | (simp only [exS]; done) | (simp only [exS]; rfl))
    · cases h
  | .brk, lv, X, c, s, h => by
    simp only [chkS] at h
    split at h
    · exact PS.cg sS_brk (by funext env st; first | (simp only [exS]; done) | (simp only [exS]; rfl))
    · cases h
  | .cnt, lv, X, c, s, h => by
    simp only [chkS] at h
    split at h
    · exact PS.cg sS_cnt (by funext env st; first | (simp only [exS]; done) | (simp only [exS]; rfl))
    · cases h
  | .pss, lv, X, c, s, h => by
    simp only [chkS] at h
    split at h
    · exact PS.cg sS_pss (by funext env st; first | (simp only [exS]; done) | (simp only [exS]; rfl))
    · cases h
  | .rse cl es, lv, X, c, s, h => by
    refine ⟨fun pins s σ H D I q => ?_⟩
    exfalso
    obtain ⟨ρ, env, st, R0, E0, a⟩ := q
    simp only [exS] at a
    cases e : evEs G C es env st with
    | ok vs st1 => rw [e] at a; exact a σ ρ H Ext.refl E0
    | exc c vs st1 => rw [e] at a; exact a σ ρ H Ext.refl E0
    | bad => rw [e] at a; exact a
  | .tri b q sl hd, lv, X, c, s, h => by simp [chkS] at h
  | .deli a i, lv, X, c, s, h => by simp [chkS] at h
theorem snSs : ∀ (ms : Ss) (lv : Lv) (X : Cx) (c : Cok T G C Nm k lv X) (ss : List Stmt), chkSs Nm ms lv ss = true → PSs X ss (tS T X.K W (exSs G C ms))
  | .nil, lv, X, c, ss, h => by
    simp only [chkSs, List.isEmpty_iff] at h
    subst h
    have e : exSs G C .nil = fun env st => .nx env st := by funext env st; simp only [exSs]
    rw [e]
    exact sS_nil
  | .cons m ms, lv, X, c, ss, h => by
    cases ss with
    | nil => simp [chkSs] at h
    | cons s ss =>
      simp only [chkSs, Bool.and_eq_true] at h
      have e : exSs G C (.cons m ms) = fun env st => (exS G C m env st).seq (exSs G C ms) := by funext env st; simp only [exSs]
      rw [e]
      exact sS_seq (snS m lv X c s h.1) (snSs ms lv X c ss h.2)
end
end
end Hr

/-! What a def promises: my evaluator's answer. -/
namespace Hr
open PySem PySem.Spec PyProof.Rows L2
section
variable {T : Tb} {K : PySem.W.Frag} {ρ ρ' : List Addr} {H H' : Hp} {st st' : Sto}
theorem get_take {ρ : List Addr} {n m : Nat} {a : Addr} (h : ρ[m]? = some a) (l : m < n) : (ρ.take n)[m]? = some a := by
  rw [List.getElem?_take_of_lt l]; exact h
mutual
theorem RelD.cut {n : Nat} : ∀ {d : D} {v : V}, clsd n d = true → RelD T K ρ H d v → RelD T K (ρ.take n) H d v
  | _, _, _, .non => .non
  | _, _, _, .bl b => .bl b
  | _, _, _, .int b => .int b
  | _, _, _, .str b => .str b
  | _, _, c, .tup s r => .tup s (RelDs.cut' (by simpa only [clsd] using c) r)
  | _, _, c, .ref h => .ref (get_take h (by simpa [clsd] using c))
  | _, _, c, .fl s r => .fl s (RelDs.cut' (by simpa only [clsd] using c) r)
  | _, _, _, .fn i => .fn i
theorem RelDs.cut' {n : Nat} : ∀ {d : List D} {v : List V}, clsds n d = true → RelDs T K ρ H d v → RelDs T K (ρ.take n) H d v
  | _, _, _, .nil => .nil
  | _, _, c, .cons a b => by
    simp only [clsds, Bool.and_eq_true] at c
    exact .cons (RelD.cut c.1 a) (RelDs.cut' c.2 b)
end
theorem RelFs.cut {n : Nat} {d : List (Str × D)} {v : List (Str × V)} (h : RelFs T K ρ H d v) (c : (d.all fun p => clsd n p.2) = true) : RelFs T K (ρ.take n) H d v := by
  induction h with
  | nil => exact .nil
  | cons r _ ih =>
    simp only [List.all_cons, Bool.and_eq_true] at c
    exact .cons (r.cut c.1) (ih c.2)
theorem RelKs.cut {n : Nat} {d : List (D × D)} {v : List (Key × V)} (h : RelKs T K ρ H d v) (c : (d.all fun p => clsd n p.1 && clsd n p.2) = true) : RelKs T K (ρ.take n) H d v := by
  induction h with
  | nil => exact .nil
  | cons k r _ ih =>
    simp only [List.all_cons, Bool.and_eq_true] at c
    exact .cons k (r.cut c.1.2) (ih c.2)
theorem RelTs.cut {n : Nat} {d : List (D × D)} {v : List (List Key × V)} (h : RelTs T K ρ H d v) (c : (d.all fun p => clsd n p.1 && clsd n p.2) = true) : RelTs T K (ρ.take n) H d v := by
  induction h with
  | nil => exact .nil
  | cons k r _ ih =>
    simp only [List.all_cons, Bool.and_eq_true] at c
    exact .cons k (r.cut c.1.2) (ih c.2)
theorem RelOb.cut {n : Nat} {o : Ob} {h : HO} (r : RelOb T K ρ H o h) (c : clsO n o = true) : RelOb T K (ρ.take n) H o h := by
  cases r with
  | lst r => exact .lst (r.cut' c)
  | ins r => exact .ins (r.cut c)
  | dK r => exact .dK (r.cut c)
  | dT r => exact .dT (r.cut c)
  | lK r => exact .lK (r.cut c)
  | lT r => exact .lT (r.cut c)
mutual
theorem RelD.cl : ∀ {d : D} {v : V}, RelD T K ρ H d v → clsd ρ.length d = true
  | _, _, .non => by simp [clsd]
  | _, _, .bl b => by simp [clsd]
  | _, _, .int b => by simp [clsd]
  | _, _, .str b => by simp [clsd]
  | _, _, .tup s r => by simp only [clsd]; exact RelDs.cl r
  | _, _, .ref h => by simp only [clsd]; exact decide_eq_true (List.getElem?_eq_some_iff.mp h).1
  | _, _, .fl s r => by simp only [clsd]; exact RelDs.cl r
  | _, _, .fn i => by simp [clsd]
theorem RelDs.cl : ∀ {d : List D} {v : List V}, RelDs T K ρ H d v → clsds ρ.length d = true
  | _, _, .nil => by simp [clsds]
  | _, _, .cons a b => by simp only [clsds, RelD.cl a, RelDs.cl b]; rfl
end
theorem keyD_cl {n : Nat} {d : D} {k : Key} (h : keyD d = some k) : clsd n d = true := by cases d <;> simp [keyD] at h <;> simp [clsd]
theorem keyDs_cl {n : Nat} : ∀ {d : List D} {k : List Key}, d.mapM keyD = some k → clsds n d = true
  | [], _, _ => by simp [clsds]
  | x :: xs, _, h => by
    rw [List.mapM_cons] at h
    simp only [Option.pure_def, Option.bind_eq_bind, Option.bind_eq_some_iff, Option.some.injEq] at h
    obtain ⟨a, h1, b, h2, _⟩ := h
    simp only [clsds, keyD_cl h1, keyDs_cl h2]; rfl
theorem keyTD_cl {n : Nat} {d : D} {k : List Key} (h : keyTD d = some k) : clsd n d = true := by
  cases d with
  | tup xs => simp only [clsd]; exact keyDs_cl h
  | _ => simp [keyTD] at h
theorem RelOb.cl {o : Ob} {h : HO} (r : RelOb T K ρ H o h) : clsO ρ.length o = true := by
  cases r with
  | lst r => exact r.cl
  | ins r => induction r with
    | nil => rfl
    | cons r _ ih => simp only [clsO, List.all_cons, Bool.and_eq_true] at ih ⊢; exact ⟨r.cl, ih⟩
  | dK r => induction r with
    | nil => rfl
    | cons k r _ ih => simp only [clsO, List.all_cons, Bool.and_eq_true] at ih ⊢; exact ⟨⟨keyD_cl k, r.cl⟩, ih⟩
  | dT r => induction r with
    | nil => rfl
    | cons k r _ ih => simp only [clsO, List.all_cons, Bool.and_eq_true] at ih ⊢; exact ⟨⟨keyTD_cl k, r.cl⟩, ih⟩
  | lK r => induction r with
    | nil => rfl
    | cons k r _ ih => simp only [clsO, List.all_cons, Bool.and_eq_true] at ih ⊢; exact ⟨⟨keyD_cl k, r.cl⟩, ih⟩
  | lT r => induction r with
    | nil => rfl
    | cons k r _ ih => simp only [clsO, List.all_cons, Bool.and_eq_true] at ih ⊢; exact ⟨⟨keyTD_cl k, r.cl⟩, ih⟩
/-- behind a call -/
theorem trim_ok {d : D} {v : V} (R0 : Rel T K ρ st H) (x : Ext ρ H ρ' H') (R1 : Rel T K ρ' st' H') (r : RelD T K ρ' H' d v) :
    ∃ ρ2, Ext ρ H ρ2 H' ∧ Rel T K ρ2 (trim st d st') H' ∧ RelD T K ρ2 H' d v := by
  unfold trim
  by_cases h : clsd st.len d = true ∧ ∀ i, i < st.len → st'.get i = st.get i ∨ ∃ o, st'.get i = some o ∧ clsO st.len o = true
  · rw [if_pos h]
    obtain ⟨t, e⟩ := x.pre
    have et : ρ'.take st.len = ρ := by rw [e, ← R0.len, List.take_left]
    refine ⟨ρ, ⟨⟨[], by simp⟩, x.keep, x.tbl, fun a m n => absurd m n⟩, ?_, by have := r.cut h.1; rwa [et] at this⟩
    have gl : ∀ n, (st'.cut st.len).get n = if n < st.len then st'.get n else none := fun n => by
      unfold Sto.cut Sto.get
      by_cases l : n < st.len
      · rw [if_pos l, List.getElem?_take_of_lt l]
      · rw [if_neg l, List.getElem?_eq_none (by simp; omega)]
    have le : st.len ≤ st'.len := by
      have h1 := R0.len
      have h2 := R1.len
      rw [e, List.length_append] at h2
      omega
    refine ⟨?_, R0.nd, fun n o g => ?_⟩
    · rw [R0.len]
      unfold Sto.cut Sto.len at *
      simp
      omega
    · rw [gl] at g
      by_cases l : n < st.len
      · rw [if_pos l] at g
        obtain ⟨a, y, e1, e2, q⟩ := R1.obj n o g
        have co : clsO st.len o = true := by
          rcases h.2 n l with z | ⟨o', z, c⟩
          · rw [g] at z
            obtain ⟨_, _, _, _, q0⟩ := R0.obj n o z.symm
            rw [← R0.len]
            exact q0.cl
          · rw [g] at z; cases z; exact c
        have q2 := q.cut co
        rw [et] at q2
        refine ⟨a, y, ?_, e2, q2⟩
        have := get_take e1 l
        rwa [et] at this
      · rw [if_neg l] at g; cases g
  · rw [if_neg h]
    exact ⟨ρ', x, R1, r⟩
end
/-! ### the defs -/
structure Row (T : Tb) (K : PySem.W.Frag) (Nm : Names) (f : Nat) (fd' : Fd) (x : Str) (fd : FuncData) (ps : List Str) : Prop where
  ex : ∃ (qual : Str) (params : Arguments) (body : List Stmt) (scope : Scope) (N : List Str), FunD K x qual params body scope [] [] (T.fnA f) fd ∧ FnScope N ps scope ∧ chkSs Nm fd'.body ⟨N, scope, fun _ => true⟩ body = true ∧ fd'.slots = N.length
  many : fd'.many = ps.length
  bd : Binds K fd ps []
structure Glo (T : Tb) (G : Pg) (Nm : Names) (K : PySem.W.Frag) (mg : Str → Option Value) : Prop where
  blt : ∀ x ∈ Nm.blt, mg x = none
  con : ∀ x g, Nm.con.lookup x = some g → ∃ u v d, mg x = some u ∧ RelV v u ∧ G.con g = some d ∧ ∀ ρ H, RelD T K ρ H d v
  fnv : ∀ x f, Nm.fn.lookup x = some f → mg x = some (.ref (T.fnA f)) ∧ ∃ fd' fd ps, G.fd f = some fd' ∧ Row T K Nm f fd' x fd ps
  all : ∀ f fd', G.fd f = some fd' → ∃ x, Nm.fn.lookup x = some f
section
variable {T : Tb} {G : Pg} {Nm : Names} {P : Program} {w : World} {K : PySem.W.Frag} {mg : Str → Option Value} {base : Heap}
theorem start_rel {ρ : List Addr} {H : Hp} {ds : List D} {vs : List V} {N : List Str} (r : RelDs T K ρ H ds vs) (hl : vs.length ≤ N.length) : RelE T K ρ H (ds.map some ++ List.replicate (N.length - ds.length) none) (L2.start N vs) := by
  unfold L2.start
  refine ⟨by simp [r.length], fun i d e => ?_⟩
  by_cases l : i < ds.length
  · rw [List.getElem?_append_left (by simpa using l), List.getElem?_map] at e
    cases q : ds[i]? with
    | none => rw [q] at e; cases e
    | some d' =>
      rw [q] at e; cases e
      obtain ⟨v, hv, rv⟩ := r.get q
      exact ⟨v, by rw [List.getElem?_append_left (by rw [List.length_map, ← r.length]; exact l), List.getElem?_map, hv]; rfl, rv⟩
  · rw [List.getElem?_append_right (by simpa using l)] at e
    rw [List.getElem?_replicate] at e
    split at e <;> cases e
theorem sp_body {n f : Nat} {fd' : Fd} {ρ : List Addr} {H : Hp} {st : Sto} {ds : List D} {Q : VK} {W : WX} (hfd : G.fd f = some fd') (R0 : Rel T K ρ st H) (hl : ds.length = fd'.many) (h : AnsC T K ρ H (callN G (n + 1) (.fn f) ds st) Q) :
    AnsS T K W ρ H (exSs G (callN G n) fd'.body (ds.map some ++ List.replicate (fd'.slots - fd'.many) none) st) { nx := fun _ H' => Q .non H', rt := Q, bk := fun _ _ => False, ct := fun _ _ => False } := by
  simp only [callN, hfd, bodyR, hl, if_true] at h
  cases e : exSs G (callN G n) fd'.body (ds.map some ++ List.replicate (fd'.slots - fd'.many) none) st with
  | nx env st1 =>
    rw [e] at h
    intro σ ρ' H' x R1 _
    obtain ⟨ρ2, x2, R2, r2⟩ := trim_ok R0 x R1 .non
    exact h .non ρ2 H' x2 R2 r2
  | rt d st1 =>
    rw [e] at h
    intro v ρ' H' x R1 r1
    obtain ⟨ρ2, x2, R2, r2⟩ := trim_ok R0 x R1 r1
    exact h v ρ2 H' x2 R2 r2
  | exc c vs env st1 => rw [e] at h; exact fun _ _ _ _ _ => h
  | bk env st1 => rw [e] at h; exact h.elim
  | ct env st1 => rw [e] at h; exact h.elim
  | bad => rw [e] at h; exact h.elim
theorem defA (gl : Glo T G Nm K mg) : ∀ (n : Nat) (f : Nat) (x : Str) (fd' : Fd) (fd : FuncData) (ps : List Str), G.fd f = some fd' → mg x = some (.ref (T.fnA f)) → Row T K Nm f fd' x fd ps → DefA T P w K mg base (callN G n) n f x fd ps := by
  intro n
  induction n with
  | zero =>
    intro f x fd' fd ps h2 h1 R
    obtain ⟨qual, params, body, scope, N, F, S, ch, sl⟩ := R.ex
    refine ⟨h1, ⟨fun vs H Q E q => q.1, fun A outer s H args us vs Q E _ _ _ _ q => ?_⟩, F.kp, R.bd, fun ds st _ => rfl⟩
    obtain ⟨_, ρ, st, ds, _, _, a⟩ := q
    exact a.elim
  | succ n ih =>
    intro f x fd' fd ps h2 h1 R
    obtain ⟨qual, params, body, scope, N, F, S, ch, sl⟩ := R.ex
    have psN : ps.length ≤ N.length := by
      have := congrArg List.length S.pre
      rw [List.length_take] at this; omega
    have ihx : ∀ g y, Nm.fn.lookup y = some g → ∃ fd ps, DefA T P w K mg base (callN G n) n g y fd ps := fun g y hy => by
      obtain ⟨k1, gd, fd2, ps2, k2, R2⟩ := gl.fnv y g hy
      exact ⟨fd2, ps2, ih g y gd fd2 ps2 k2 k1 R2⟩
    refine ⟨h1, ?_, F.kp, R.bd, fun ds st hne => ?_⟩
    · refine F.ok S (fun vs H Q E q => q.1) (fun cdv A outer s H vs Q E hr q => ?_)
      obtain ⟨hl, ρ, st, ds, R0, rs, a⟩ := q
      refine ⟨tS T K (fun _ _ _ _ => False) (exSs G (callN G n) fd'.body), PSs.nox (snSs (Nm := Nm) (k := n) fd'.body ⟨N, scope, fun _ => true⟩ _ ?_ body ch), ρ, _, st, R0, start_rel rs (by omega), ?_⟩
      · exact {
          N := rfl, sc := rfl, fn := rfl, xe := rfl, calm := rfl, room := hr, nd := S.nd, kind := S.kind, blt := gl.blt, con := gl.con
          fnv := fun y g hy => ihx g y hy
          all := fun d => by
            cases d with
            | fn g =>
              cases hg : G.fd g with
              | none =>
                refine .inr fun ds st => ?_
                cases n with
                | zero => rfl
                | succ n => simp [callN, hg]
              | some gd =>
                obtain ⟨y, hy⟩ := gl.all g gd hg
                obtain ⟨fd2, ps2, A2⟩ := ihx g y hy
                exact .inl ⟨g, y, fd2, ps2, rfl, A2⟩
            | _ => exact .inr fun ds st => by cases n <;> rfl }
      · have := sp_body (W := fun _ _ _ _ => False) h2 R0 (by rw [R.many, ← hl]; exact rs.length) a
        rw [R.many, ← hl, ← rs.length, sl] at this
        exact this
    · simp only [callN, h2, bodyR]
      rw [if_neg (by rw [R.many]; exact hne)]
theorem FrL.of {H : Hp} {a : Addr} {vs : List V} (o : Only H) (h : SqL K H a vs) : FrL K H a vs := by
  rcases h with (h | ⟨ob, h⟩) | h
  · rcases o a with e | ⟨ob, xs, e⟩
    · rw [e] at h; cases h
    · rw [e] at h; cases h
  · exact .inl ⟨ob, h⟩
  · exact .inr h
theorem ints_rel {ρ : List Addr} {H : Hp} : ∀ ns : List Int, RelDs T K ρ H (ns.map D.int) (ns.map V.int)
  | [] => .nil
  | n :: ns => .cons (.int n) (ints_rel ns)
/-- the law's promise -/
theorem law_sp {n f : Nat} {H : Hp} {a : Addr} {ns : List Int} {E : XK} (o : Only H) (h : SqL K H a (ns.map V.int)) (hs : ∃ st', callN G n (.fn f) [.fl (ns.map D.int)] ⟨[]⟩ = .ok (.bl true) st') : spC T K (callN G n) 1 f [.ref a] H (fun v _ => v = .bl true) E := by
  obtain ⟨st', e⟩ := hs
  refine ⟨rfl, [], ⟨[]⟩, [.fl (ns.map D.int)], ⟨rfl, List.nodup_nil, fun n o z => by simp [Sto.get] at z⟩, .cons (.fl (FrL.of o h) (ints_rel ns)) .nil, ?_⟩
  rw [e]
  intro v ρ' H' _ _ r
  cases r
  rfl
end
end Hr

namespace Hr
open PySem
def F.«is_whole» : Nat := 0
def F.«is_within» : Nat := 1
def F.«is_row» : Nat := 2
def F.«first_wrong» : Nat := 3
def F.«place_told» : Nat := 4
def F.«has_form» : Nat := 5
def F.«is_update» : Nat := 6
def F.«require_updates» : Nat := 7
def F.«require_every» : Nat := 8
def F.«spells» : Nat := 9
def F.«overdue_of» : Nat := 10
def F.«overdue» : Nat := 11
def F.«are_kept» : Nat := 12
def F.«least_every» : Nat := 13
def F.«next_due» : Nat := 14
def F.«open_moments» : Nat := 15
def F.«_law_taken» : Nat := 16
def F.«_law_pick» : Nat := 17
def F.«_law_alike» : Nat := 18
def F.«_law_updates» : Nat := 19
def F.«_law_last» : Nat := 20
def F.«law» : Nat := 21
def K.«RoomError» : Nat := 0
def K.«BadNumber» : Nat := 1
def K.«BadUpdates» : Nat := 2
def Q.«MOST_ROWS» : Nat := 0
def Q.«MOST_MOMENT» : Nat := 1
def Q.«MOST_EVERY» : Nat := 2
def Q.«OPEN» : Nat := 3
def Q.«SAY» : Nat := 4
def Q.«CLOSE» : Nat := 5
/-- names 0:value -/
def B.«is_whole» : Ss := (.cons (.ret (.and (.isi (.var 0) [.int]) (.not (.isi (.var 0) [.bool]))))
  .nil)
def d.«is_whole» : Fd := ⟨1, 1, B.«is_whole»⟩
/-- names 0:value 1:least 2:most -/
def B.«is_within» : Ss := (.cons (.ret (.and (.call F.«is_whole» (.cons (.var 0) .nil)) (.chn .le .le (.var 1) (.var 0) (.var 2))))
  .nil)
def d.«is_within» : Fd := ⟨3, 3, B.«is_within»⟩
/-- names 0:value 1:size -/
def B.«is_row» : Ss := (.cons (.ret (.and (.isi (.var 0) [.tuple]) (.cmp .eq (.bi .len (.cons (.var 0) .nil)) (.var 1))))
  .nil)
def d.«is_row» : Fd := ⟨2, 2, B.«is_row»⟩
/-- names 0:value 1:least 2:most 3:judge 4:place 5:row -/
def Y.«first_wrong_0» : Ss := (.cons (.iff (.not (.callv 3 (.cons (.var 5) (.cons (.sli (.var 0) .nil (.cons (.var 4) .nil)) .nil)))) (.cons (.ret (.var 4))
  .nil) .nil)
  .nil)
def B.«first_wrong» : Ss := (.cons (.iff (.or (.not (.isi (.var 0) [.tuple])) (.not (.chn .le .le (.var 1) (.bi .len (.cons (.var 0) .nil)) (.var 2)))) (.cons (.ret (.neg (.int 1)))
  .nil) .nil)
  (.cons (.forr (.tp [(.nm 4), (.nm 5)]) (.enum (.var 0)) Y.«first_wrong_0»)
  (.cons (.ret .non)
  .nil)))
def d.«first_wrong» : Fd := ⟨4, 6, B.«first_wrong»⟩
/-- names 0:place -/
def B.«place_told» : Ss := (.cons (.ret (.ite (.cmp .eq (.var 0) (.neg (.int 1))) .non (.var 0)))
  .nil)
def d.«place_told» : Fd := ⟨1, 1, B.«place_told»⟩
/-- names 0:row -/
def B.«has_form» : Ss := (.cons (.iff (.or (.not (.call F.«is_row» (.cons (.var 0) (.cons (.int 2) .nil)))) (.or (.not (.call F.«is_within» (.cons (.idx (.var 0) (.int 0)) (.cons (.int 0) (.cons (.glo Q.«MOST_MOMENT») .nil))))) (.not (.isi (.idx (.var 0) (.int 1)) [.str])))) (.cons (.ret (.bl false))
  .nil) .nil)
  (.cons (.ret (.cmp .isin (.idx (.var 0) (.int 1)) (.tup (.cons (.glo Q.«OPEN») (.cons (.glo Q.«SAY») (.cons (.glo Q.«CLOSE») .nil))))))
  .nil))
def d.«has_form» : Fd := ⟨1, 1, B.«has_form»⟩
/-- names 0:row 1:ahead 2:is_open 3:one -/
def B.«is_update» : Ss := (.cons (.iff (.or (.not (.call F.«has_form» (.cons (.var 0) .nil))) (.and (.cmp .gt (.bi .len (.cons (.var 1) .nil)) (.int 0)) (.cmp .lt (.idx (.var 0) (.int 0)) (.idx (.idx (.var 1) (.neg (.int 1))) (.int 0))))) (.cons (.ret (.bl false))
  .nil) .nil)
  (.cons (.asg (.nm 2) (.cmp .gt (.fz .len (.var 3) (.one [3] (.nm 3) (.ex (.var 1)) (.cons (.cmp .eq (.idx (.var 3) (.int 1)) (.glo Q.«OPEN»)) .nil))) (.fz .len (.var 3) (.one [3] (.nm 3) (.ex (.var 1)) (.cons (.cmp .eq (.idx (.var 3) (.int 1)) (.glo Q.«CLOSE»)) .nil)))))
  (.cons (.ret (.cmp .ne (.var 2) (.cmp .eq (.idx (.var 0) (.int 1)) (.glo Q.«OPEN»))))
  .nil)))
def d.«is_update» : Fd := ⟨2, 4, B.«is_update»⟩
/-- names 0:updates 1:place -/
def B.«require_updates» : Ss := (.cons (.asg (.nm 1) (.call F.«first_wrong» (.cons (.var 0) (.cons (.int 0) (.cons (.glo Q.«MOST_ROWS») (.cons (.fnv F.«is_update») .nil))))))
  (.cons (.iff (.isnN (.var 1)) (.cons (.rse K.«BadUpdates» (.cons (.call F.«place_told» (.cons (.var 1) .nil)) .nil))
  .nil) .nil)
  .nil))
def d.«require_updates» : Fd := ⟨1, 2, B.«require_updates»⟩
/-- names 0:every -/
def B.«require_every» : Ss := (.cons (.iff (.not (.call F.«is_within» (.cons (.var 0) (.cons (.int 1) (.cons (.glo Q.«MOST_EVERY») .nil))))) (.cons (.rse K.«BadNumber» (.cons (.var 0) .nil))
  .nil) .nil)
  .nil)
def d.«require_every» : Fd := ⟨1, 1, B.«require_every»⟩
/-- names 0:updates 1:end 2:found 3:place 4:moment 5:word -/
def Y.«spells_0» : Ss := (.cons (.iff (.cmp .ne (.var 5) (.glo Q.«CLOSE»)) (.cons (.expr (.bm .append (.var 2) (.cons (.tup (.cons (.var 4) (.cons (.ite (.cmp .lt (.bin .add (.var 3) (.int 1)) (.bi .len (.cons (.var 0) .nil))) (.idx (.idx (.var 0) (.bin .add (.var 3) (.int 1))) (.int 0)) (.bi .max (.cons (.var 1) (.cons (.var 4) .nil)))) .nil))) .nil)))
  .nil) .nil)
  .nil)
def B.«spells» : Ss := (.cons (.asg (.nm 2) (.lst .nil))
  (.cons (.forr (.tp [(.nm 3), (.tp [(.nm 4), (.nm 5)])]) (.enum (.var 0)) Y.«spells_0»)
  (.cons (.ret (.var 2))
  .nil)))
def d.«spells» : Fd := ⟨2, 6, B.«spells»⟩
/-- names 0:updates 1:every 2:end 3:found 4:first 5:last 6:moment -/
def Y.«overdue_of_0» : Ss := (.cons (.expr (.bm .extend (.var 3) (.cons (.lc (.var 6) (.one [6] (.nm 6) (.rng (.cons (.bin .add (.var 4) (.var 1)) (.cons (.var 5) .nil))) .nil)) .nil)))
  .nil)
def B.«overdue_of» : Ss := (.cons (.asg (.nm 3) (.lst .nil))
  (.cons (.forr (.tp [(.nm 4), (.nm 5)]) (.ex (.call F.«spells» (.cons (.var 0) (.cons (.var 2) .nil)))) Y.«overdue_of_0»)
  (.cons (.ret (.var 3))
  .nil)))
def d.«overdue_of» : Fd := ⟨3, 7, B.«overdue_of»⟩
/-- names 0:updates 1:every 2:end 3:moment -/
def B.«overdue» : Ss := (.cons (.expr (.call F.«require_updates» (.cons (.var 0) .nil)))
  (.cons (.expr (.call F.«require_every» (.cons (.var 1) .nil)))
  (.cons (.iff (.not (.call F.«is_within» (.cons (.var 2) (.cons (.int 0) (.cons (.glo Q.«MOST_MOMENT») .nil))))) (.cons (.rse K.«BadNumber» (.cons (.var 2) .nil))
  .nil) .nil)
  (.cons (.ret (.fz .tuple (.var 3) (.one [3] (.nm 3) (.ex (.call F.«overdue_of» (.cons (.var 0) (.cons (.var 1) (.cons (.var 2) .nil))))) (.cons (.cmp .lt (.var 3) (.var 2)) .nil))))
  .nil))))
def d.«overdue» : Fd := ⟨3, 4, B.«overdue»⟩
/-- names 0:updates 1:every 2:end -/
def B.«are_kept» : Ss := (.cons (.ret (.cmp .eq (.call F.«overdue» (.cons (.var 0) (.cons (.var 1) (.cons (.var 2) .nil)))) (.tup .nil)))
  .nil)
def d.«are_kept» : Fd := ⟨3, 3, B.«are_kept»⟩
/-- names 0:updates 1:end 2:first 3:last -/
def B.«least_every» : Ss := (.cons (.expr (.call F.«require_updates» (.cons (.var 0) .nil)))
  (.cons (.iff (.not (.call F.«is_within» (.cons (.var 1) (.cons (.int 0) (.cons (.glo Q.«MOST_MOMENT») .nil))))) (.cons (.rse K.«BadNumber» (.cons (.var 1) .nil))
  .nil) .nil)
  (.cons (.ret (.bi .max (.cons (.bin .add (.lst (.cons (.int 1) .nil)) (.lc (.bin .sub (.bi .min (.cons (.var 3) (.cons (.var 1) .nil))) (.var 2)) (.one [2, 3] (.tp [(.nm 2), (.nm 3)]) (.ex (.call F.«spells» (.cons (.var 0) (.cons (.var 1) .nil)))) .nil))) .nil)))
  .nil)))
def d.«least_every» : Fd := ⟨2, 4, B.«least_every»⟩
/-- names 0:updates 1:every -/
def B.«next_due» : Ss := (.cons (.expr (.call F.«require_updates» (.cons (.var 0) .nil)))
  (.cons (.expr (.call F.«require_every» (.cons (.var 1) .nil)))
  (.cons (.iff (.or (.cmp .eq (.var 0) (.tup .nil)) (.cmp .eq (.idx (.idx (.var 0) (.neg (.int 1))) (.int 1)) (.glo Q.«CLOSE»))) (.cons (.ret .non)
  .nil) .nil)
  (.cons (.ret (.bin .add (.idx (.idx (.var 0) (.neg (.int 1))) (.int 0)) (.var 1)))
  .nil))))
def d.«next_due» : Fd := ⟨2, 2, B.«next_due»⟩
/-- names 0:updates 1:end 2:first 3:last -/
def B.«open_moments» : Ss := (.cons (.expr (.call F.«require_updates» (.cons (.var 0) .nil)))
  (.cons (.iff (.not (.call F.«is_within» (.cons (.var 1) (.cons (.int 0) (.cons (.glo Q.«MOST_MOMENT») .nil))))) (.cons (.rse K.«BadNumber» (.cons (.var 1) .nil))
  .nil) .nil)
  (.cons (.ret (.fz .sum (.bi .max (.cons (.int 0) (.cons (.bin .sub (.bi .min (.cons (.var 3) (.cons (.var 1) .nil))) (.var 2)) .nil))) (.one [2, 3] (.tp [(.nm 2), (.nm 3)]) (.ex (.call F.«spells» (.cons (.var 0) (.cons (.var 1) .nil)))) .nil)))
  .nil)))
def d.«open_moments» : Fd := ⟨2, 4, B.«open_moments»⟩
/-- names 0:row 1:many 2:found 3:cell -/
def B.«_law_taken» : Ss := (.cons (.iff (.cmp .gt (.idx (.var 0) (.int 3)) (.int 0)) (.cons (.asg (.nm 2) (.bin .mod (.bi .int (.cons (.idx (.var 0) (.int 3)) .nil)) (.var 1)))
  (.cons (.seti (.var 0) (.int 3) (.bin .fdiv (.idx (.var 0) (.int 3)) (.var 1)))
  (.cons (.ret (.var 2))
  .nil))) .nil)
  (.cons (.seti (.var 0) (.int 1) (.bin .add (.idx (.var 0) (.int 1)) (.int 1)))
  (.cons (.iff (.cmp .gt (.idx (.var 0) (.int 1)) (.bi .len (.cons (.idx (.var 0) (.int 0)) .nil))) (.cons (.seti (.var 0) (.int 2) (.bin .mod (.bi .int (.cons (.bin .add (.bin .mul (.idx (.var 0) (.int 2)) (.int 48271)) (.int 11)) .nil)) (.int 2147483647)))
  (.cons (.ret (.bin .mod (.bi .int (.cons (.bin .fdiv (.idx (.var 0) (.int 2)) (.int 7)) .nil)) (.var 1)))
  .nil)) .nil)
  (.cons (.asg (.nm 3) (.idx (.idx (.var 0) (.int 0)) (.bin .sub (.idx (.var 0) (.int 1)) (.int 1))))
  (.cons (.seti (.var 0) (.int 2) (.bin .mod (.bi .int (.cons (.bin .add (.bin .add (.bin .mul (.idx (.var 0) (.int 2)) (.int 48271)) (.var 3)) (.int 11)) .nil)) (.int 2147483647)))
  (.cons (.iff (.cmp .ge (.var 3) (.bin .pow (.int 10) (.int 18))) (.cons (.seti (.var 0) (.int 3) (.bin .fdiv (.var 3) (.var 1)))
  (.cons (.ret (.bin .mod (.bi .int (.cons (.var 3) .nil)) (.var 1)))
  .nil)) .nil)
  (.cons (.ret (.bin .mod (.bi .int (.cons (.bin .add (.bin .mul (.bin .mod (.bi .int (.cons (.var 3) .nil)) (.int 1000003)) (.int 31)) (.bin .fdiv (.idx (.var 0) (.int 2)) (.int 11))) .nil)) (.var 1)))
  .nil)))))))
def d.«_law_taken» : Fd := ⟨2, 4, B.«_law_taken»⟩
/-- names 0:row 1:things -/
def B.«_law_pick» : Ss := (.cons (.ret (.idx (.var 1) (.call F.«_law_taken» (.cons (.var 0) (.cons (.bi .len (.cons (.var 1) .nil)) .nil)))))
  .nil)
def d.«_law_pick» : Fd := ⟨2, 2, B.«_law_pick»⟩
/-- names 0:found 1:due 2:k -/
def B.«_law_alike» : Ss := (.cons (.iff (.isi (.var 1) [.tuple, .list]) (.cons (.iff (.or (.not (.isi (.var 0) [.tuple, .list])) (.cmp .ne (.isi (.var 0) [.list]) (.isi (.var 1) [.list]))) (.cons (.ret (.bl false))
  .nil) .nil)
  (.cons (.iff (.cmp .ne (.bi .len (.cons (.var 0) .nil)) (.bi .len (.cons (.var 1) .nil))) (.cons (.ret (.bl false))
  .nil) .nil)
  (.cons (.ret (.cmp .eq (.lc (.var 2) (.one [2] (.nm 2) (.rng (.cons (.bi .len (.cons (.var 1) .nil)) .nil)) (.cons (.not (.call F.«_law_alike» (.cons (.idx (.var 0) (.var 2)) (.cons (.idx (.var 1) (.var 2)) .nil)))) .nil))) (.lst .nil)))
  .nil))) .nil)
  (.cons (.iff (.or (.isN (.var 1)) (.isi (.var 1) [.str])) (.cons (.ret (.and (.cmp .eq (.var 0) (.var 1)) (.cmp .eq (.isi (.var 0) [.str]) (.isi (.var 1) [.str]))))
  .nil) .nil)
  (.cons (.ret (.and (.isi (.var 0) [.int]) (.and (.cmp .eq (.isi (.var 0) [.bool]) (.isi (.var 1) [.bool])) (.cmp .eq (.var 0) (.var 1)))))
  .nil)))
def d.«_law_alike» : Fd := ⟨2, 3, B.«_law_alike»⟩
/-- names 0:row 1:most 2:now 3:is_open 4:found 5:k 6:word -/
def Y.«_law_updates_0» : Ss := (.cons (.asg (.nm 2) (.bi .min (.cons (.int 999) (.cons (.bin .add (.var 2) (.call F.«_law_taken» (.cons (.var 0) (.cons (.call F.«_law_pick» (.cons (.var 0) (.cons (.lst (.cons (.int 1) (.cons (.int 4) (.cons (.int 30) .nil)))) .nil))) .nil)))) .nil))))
  (.cons (.asg (.nm 6) (.ite (.not (.var 3)) (.str "open") (.call F.«_law_pick» (.cons (.var 0) (.cons (.lst (.cons (.str "say") (.cons (.str "say") (.cons (.str "close") .nil)))) .nil)))))
  (.cons (.asg (.nm 3) (.cmp .ne (.var 6) (.str "close")))
  (.cons (.expr (.bm .append (.var 4) (.cons (.tup (.cons (.var 2) (.cons (.var 6) .nil))) .nil)))
  .nil))))
def B.«_law_updates» : Ss := (.cons (.asg (.tp [(.nm 2), (.nm 3), (.nm 4)]) (.tup (.cons (.call F.«_law_taken» (.cons (.var 0) (.cons (.int 9) .nil))) (.cons (.bl false) (.cons (.lst .nil) .nil)))))
  (.cons (.forr (.nm 5) (.rng (.cons (.call F.«_law_taken» (.cons (.var 0) (.cons (.bin .add (.var 1) (.int 1)) .nil))) .nil)) Y.«_law_updates_0»)
  (.cons (.ret (.bi .tuple (.cons (.var 4) .nil)))
  .nil)))
def d.«_law_updates» : Fd := ⟨2, 7, B.«_law_updates»⟩
/-- names 0:updates 1:moment 2:there 3:one -/
def B.«_law_last» : Ss := (.cons (.asg (.nm 2) (.lc (.var 3) (.one [3] (.nm 3) (.ex (.var 0)) (.cons (.cmp .le (.idx (.var 3) (.int 0)) (.var 1)) .nil))))
  (.cons (.ret (.ite (.cmp .ne (.var 2) (.lst .nil)) (.idx (.var 2) (.neg (.int 1))) .non))
  .nil))
def d.«_law_last» : Fd := ⟨2, 4, B.«_law_last»⟩
/-- names 0:script 1:row 2:turn 3:updates 4:every 5:end 6:due 7:is_open 8:moment 9:last 10:least 11:coming -/
def Y.«law_0» : Ss := (.cons (.asg (.nm 9) (.call F.«_law_last» (.cons (.var 3) (.cons (.var 8) .nil))))
  (.cons (.iff (.and (.isnN (.var 9)) (.cmp .ne (.idx (.var 9) (.int 1)) (.str "close"))) (.cons (.asg (.nm 10) (.bi .max (.cons (.var 10) (.cons (.bin .add (.bin .sub (.var 8) (.idx (.var 9) (.int 0))) (.int 1)) .nil))))
  .nil) .nil)
  .nil))
def Y.«law_1» : Ss := (.cons (.asg (.nm 9) (.call F.«_law_last» (.cons (.var 3) (.cons (.var 8) .nil))))
  (.cons (.iff (.and (.isnN (.var 9)) (.cmp .ne (.idx (.var 9) (.int 1)) (.str "close"))) (.cons (.asg (.nm 7) (.bin .add (.var 7) (.int 1)))
  (.cons (.expr (.bm .extend (.var 6) (.cons (.ite (.cmp .ge (.bin .sub (.var 8) (.idx (.var 9) (.int 0))) (.var 4)) (.lst (.cons (.var 8) .nil)) (.lst .nil)) .nil)))
  .nil)) .nil)
  .nil))
def Y.«law_2» : Ss := (.cons (.asg (.tp [(.nm 3), (.nm 4)]) (.tup (.cons (.call F.«_law_updates» (.cons (.var 1) (.cons (.call F.«_law_pick» (.cons (.var 1) (.cons (.lst (.cons (.int 4) (.cons (.int 15) (.cons (.int 60) .nil)))) .nil))) .nil))) (.cons (.call F.«_law_pick» (.cons (.var 1) (.cons (.lst (.cons (.int 1) (.cons (.int 2) (.cons (.int 5) (.cons (.int 99) .nil))))) .nil))) .nil))))
  (.cons (.asg (.nm 5) (.call F.«_law_pick» (.cons (.var 1) (.cons (.lst (.cons (.call F.«_law_taken» (.cons (.var 1) (.cons (.int 60) .nil))) (.cons (.int 200) (.cons (.int 0) .nil)))) .nil))))
  (.cons (.asg (.tp [(.nm 6), (.nm 7)]) (.tup (.cons (.lst .nil) (.cons (.int 0) .nil))))
  (.cons (.forr (.nm 8) (.rng (.cons (.var 5) .nil)) Y.«law_1»)
  (.cons (.iff (.not (.call F.«_law_alike» (.cons (.tup (.cons (.call F.«overdue» (.cons (.var 3) (.cons (.var 4) (.cons (.var 5) .nil)))) (.cons (.call F.«are_kept» (.cons (.var 3) (.cons (.var 4) (.cons (.var 5) .nil)))) (.cons (.call F.«open_moments» (.cons (.var 3) (.cons (.var 5) .nil))) .nil)))) (.cons (.tup (.cons (.bi .tuple (.cons (.var 6) .nil)) (.cons (.cmp .eq (.var 6) (.lst .nil)) (.cons (.var 7) .nil)))) .nil)))) (.cons (.ret (.bl false))
  .nil) .nil)
  (.cons (.asg (.nm 10) (.int 1))
  (.cons (.forr (.nm 8) (.rng (.cons (.var 5) .nil)) Y.«law_0»)
  (.cons (.iff (.not (.call F.«_law_alike» (.cons (.call F.«least_every» (.cons (.var 3) (.cons (.var 5) .nil))) (.cons (.var 10) .nil)))) (.cons (.ret (.bl false))
  .nil) .nil)
  (.cons (.asg (.nm 11) (.ite (.and (.cmp .ne (.var 3) (.tup .nil)) (.cmp .ne (.idx (.idx (.var 3) (.neg (.int 1))) (.int 1)) (.str "close"))) (.bin .add (.idx (.idx (.var 3) (.neg (.int 1))) (.int 0)) (.var 4)) .non))
  (.cons (.iff (.not (.call F.«_law_alike» (.cons (.call F.«next_due» (.cons (.var 3) (.cons (.var 4) .nil))) (.cons (.var 11) .nil)))) (.cons (.ret (.bl false))
  .nil) .nil)
  .nil))))))))))
def B.«law» : Ss := (.cons (.asg (.nm 1) (.lst (.cons (.var 0) (.cons (.int 0) (.cons (.int 9641) (.cons (.int 0) .nil))))))
  (.cons (.forr (.nm 2) (.rng (.cons (.int 4) .nil)) Y.«law_2»)
  (.cons (.ret (.bl true))
  .nil)))
def d.«law» : Fd := ⟨1, 12, B.«law»⟩
def G : Pg where
  con := fun g => match g with
    | 0 => some (.int 60)
    | 1 => some (.int 999)
    | 2 => some (.int 99)
    | 3 => some (.str "open")
    | 4 => some (.str "say")
    | 5 => some (.str "close")
    | _ => none
  fd := fun f => match f with
    | 0 => some d.«is_whole»
    | 1 => some d.«is_within»
    | 2 => some d.«is_row»
    | 3 => some d.«first_wrong»
    | 4 => some d.«place_told»
    | 5 => some d.«has_form»
    | 6 => some d.«is_update»
    | 7 => some d.«require_updates»
    | 8 => some d.«require_every»
    | 9 => some d.«spells»
    | 10 => some d.«overdue_of»
    | 11 => some d.«overdue»
    | 12 => some d.«are_kept»
    | 13 => some d.«least_every»
    | 14 => some d.«next_due»
    | 15 => some d.«open_moments»
    | 16 => some d.«_law_taken»
    | 17 => some d.«_law_pick»
    | 18 => some d.«_law_alike»
    | 19 => some d.«_law_updates»
    | 20 => some d.«_law_last»
    | 21 => some d.«law»
    | _ => none
  meth := fun c m => match c with
    | _ => none
  init := fun c => match c with
    | _ => none
  sub := fun c k => match c with
    | 0 => k == 0
    | 1 => k == 1 || k == 0
    | 2 => k == 2 || k == 0
    | _ => false
  flds := fun c => match c with
    | 1 => [("value" : Str)]
    | 2 => [("place" : Str)]
    | _ => []
theorem gf.«is_whole» : G.fd F.«is_whole» = some d.«is_whole» := rfl
theorem gf.«is_within» : G.fd F.«is_within» = some d.«is_within» := rfl
theorem gf.«is_row» : G.fd F.«is_row» = some d.«is_row» := rfl
theorem gf.«first_wrong» : G.fd F.«first_wrong» = some d.«first_wrong» := rfl
theorem gf.«place_told» : G.fd F.«place_told» = some d.«place_told» := rfl
theorem gf.«has_form» : G.fd F.«has_form» = some d.«has_form» := rfl
theorem gf.«is_update» : G.fd F.«is_update» = some d.«is_update» := rfl
theorem gf.«require_updates» : G.fd F.«require_updates» = some d.«require_updates» := rfl
theorem gf.«require_every» : G.fd F.«require_every» = some d.«require_every» := rfl
theorem gf.«spells» : G.fd F.«spells» = some d.«spells» := rfl
theorem gf.«overdue_of» : G.fd F.«overdue_of» = some d.«overdue_of» := rfl
theorem gf.«overdue» : G.fd F.«overdue» = some d.«overdue» := rfl
theorem gf.«are_kept» : G.fd F.«are_kept» = some d.«are_kept» := rfl
theorem gf.«least_every» : G.fd F.«least_every» = some d.«least_every» := rfl
theorem gf.«next_due» : G.fd F.«next_due» = some d.«next_due» := rfl
theorem gf.«open_moments» : G.fd F.«open_moments» = some d.«open_moments» := rfl
theorem gf.«_law_taken» : G.fd F.«_law_taken» = some d.«_law_taken» := rfl
theorem gf.«_law_pick» : G.fd F.«_law_pick» = some d.«_law_pick» := rfl
theorem gf.«_law_alike» : G.fd F.«_law_alike» = some d.«_law_alike» := rfl
theorem gf.«_law_updates» : G.fd F.«_law_updates» = some d.«_law_updates» := rfl
theorem gf.«_law_last» : G.fd F.«_law_last» = some d.«_law_last» := rfl
theorem gf.«law» : G.fd F.«law» = some d.«law» := rfl
theorem gq.«MOST_ROWS» : G.con Q.«MOST_ROWS» = some (.int 60) := rfl
theorem gq.«MOST_MOMENT» : G.con Q.«MOST_MOMENT» = some (.int 999) := rfl
theorem gq.«MOST_EVERY» : G.con Q.«MOST_EVERY» = some (.int 99) := rfl
theorem gq.«OPEN» : G.con Q.«OPEN» = some (.str "open") := rfl
theorem gq.«SAY» : G.con Q.«SAY» = some (.str "say") := rfl
theorem gq.«CLOSE» : G.con Q.«CLOSE» = some (.str "close") := rfl
end Hr
namespace Hr
open PySem
/-! ### rules of the evaluator's loops -/
theorem forL_rule {lk : Lk} {t : Hr.T} {body : Env → Sto → SR} (P : List D → Env → Sto → Prop) (hs : ∀ xs env st, P xs env st → lk.stands st)
    (step : ∀ x xs env st, P (x :: xs) env st → ∃ env1 env2 st2, asgT t x env = some env1 ∧ (body env1 st = .nx env2 st2 ∨ body env1 st = .ct env2 st2) ∧ P xs env2 st2) :
    ∀ xs env st, P xs env st → ∃ env' st', forL lk t body xs env st = .nx env' st' ∧ P [] env' st' := by
  intro xs
  induction xs with
  | nil => intro env st h; exact ⟨env, st, by simp only [forL]; rw [if_pos (hs _ _ _ h)], h⟩
  | cons x xs ih =>
    intro env st h
    obtain ⟨env1, env2, st2, e1, e2, h2⟩ := step x xs env st h
    obtain ⟨env', st', e3, h3⟩ := ih env2 st2 h2
    refine ⟨env', st', ?_, h3⟩
    simp only [forL]
    rw [if_pos (hs _ _ _ h), e1]
    rcases e2 with e2 | e2 <;> (dsimp only; rw [e2]; exact e3)
theorem cmpL_rule {lk : Lk} {own : List Nat} {t : Hr.T} {cond : Env → Sto → R Bool} {elt : Env → Sto → R (List D)} {env : Env} {st : Sto} (e1 : D → Env) (b : D → Bool) (f : D → D) (hs : lk.stands st) :
    ∀ xs : List D, (∀ x ∈ xs, asgT t x (wipe env own) = some (e1 x) ∧ cond (e1 x) st = .ok (b x) st ∧ (b x = true → elt (e1 x) st = .ok [f x] st)) → cmpL lk own t cond elt env xs st = .ok ((xs.filter b).map f) st := by
  intro xs
  induction xs with
  | nil => intro _; simp only [cmpL]; rw [if_pos hs]; rfl
  | cons x xs ih =>
    intro h
    obtain ⟨h1, h2, h3⟩ := h x List.mem_cons_self
    have ih := ih fun y hy => h y (List.mem_cons_of_mem _ hy)
    simp only [cmpL]
    rw [if_pos hs, h1]
    dsimp only
    rw [h2]
    cases hb : b x with
    | true => simp only [R.bind, h3 hb, ih, List.filter_cons, hb, if_true, List.map_cons]; rfl
    | false => simp only [R.bind, ih, List.filter_cons, hb]; rfl
/-! ### what a return forgets -/
theorem trim_kp {st st' : Sto} {d : D} {t : List Ob} (e : st'.cells = st.cells ++ t) (h : clsd st.len d = true) : trim st d st' = st := by
  unfold trim
  rw [if_pos ⟨h, fun i hi => .inl (by unfold Sto.get; rw [e, List.getElem?_append_left hi])⟩]
  unfold Sto.cut Sto.len
  rw [e, List.take_left]
theorem trim_self {st : Sto} {d : D} : trim st d st = st := by
  unfold trim
  by_cases h : clsd st.len d = true ∧ ∀ i, i < st.len → st.get i = st.get i ∨ ∃ o, st.get i = some o ∧ clsO st.len o = true
  · rw [if_pos h]; unfold Sto.cut Sto.len; rw [List.take_length]
  · rw [if_neg h]
theorem trim_row {st st' : Sto} {d : D} {p : Nat} {o : Ob} {t : List Ob} (e : st'.cells = (st.put p o).cells ++ t) (ho : clsO st.len o = true) (h : clsd st.len d = true) : trim st d st' = st.put p o := by
  unfold trim
  have hl : (st.put p o).cells.length = st.len := by simp [Sto.put, Sto.len]
  have hg : ∀ i, i < st.len → st'.get i = (st.put p o).get i := fun i hi => by unfold Sto.get; rw [e, List.getElem?_append_left (by rw [hl]; exact hi)]
  have hc : clsd st.len d = true ∧ ∀ i, i < st.len → st'.get i = st.get i ∨ ∃ o, st'.get i = some o ∧ clsO st.len o = true := by
    refine ⟨h, fun i hi => ?_⟩
    rw [hg i hi, Sto.get_put]
    by_cases q : i = p ∧ p < st.len
    · rw [if_pos q]; exact .inr ⟨o, rfl, ho⟩
    · rw [if_neg q]; exact .inl rfl
  rw [if_pos hc]
  unfold Sto.cut; rw [e, ← hl, List.take_left]
/-! ### small defs -/
theorem w_is_whole (n : Nat) (i : Int) (st : Sto) : callN G (n + 1) (.fn F.«is_whole») [.int i] st = .ok (.bl true) st := by
  simp [callN, gf.«is_whole», d.«is_whole», B.«is_whole», bodyR, exSs, exS, evE, evEs, R.bind, R.to, SR.seq, ofO, truR, truB, isTys, isTy, trim_self]
theorem w_is_within (n : Nat) (i a b : Int) (st : Sto) : callN G (n + 2) (.fn F.«is_within») [.int i, .int a, .int b] st = .ok (.bl (decide (a ≤ i) && decide (i ≤ b))) st := by
  have h := w_is_whole n i st
  rw [callN]
  simp only [gf.«is_within», d.«is_within», B.«is_within», bodyR, exSs, exS, evE, evEs, R.bind, R.to, SR.seq, ofO, truR, truB]
  simp [evE, evEs, R.bind, h, ofO, truB, cmpV]
  by_cases h1 : a ≤ i <;> by_cases h2 : i ≤ b <;> simp [h1, h2, R.to, trim_self]
theorem w_is_row (n : Nat) (xs : List D) (k : Int) (st : Sto) : callN G (n + 1) (.fn F.«is_row») [.tup xs, .int k] st = .ok (.bl (decide ((xs.length : Int) = k))) st := by
  simp [callN, gf.«is_row», d.«is_row», B.«is_row», bodyR, exSs, exS, evE, evEs, R.bind, R.to, SR.seq, ofO, truR, truB, isTys, isTy, trim_self, biV, biO, biT, cmpV, eqV, okD, eqT]
  rfl
end Hr

namespace Hr
open PySem
/-! ### draws -/
/-- the row of the law's draws -/
def rowO (ns : List Int) (a b c : Int) : Ob := .lst [.fl (ns.map D.int), .int a, .int b, .int c]
theorem rowO_cl {ns : List Int} {a b c : Int} (n : Nat) : clsO n (rowO ns a b c) = true := by
  have h : ∀ l : List Int, clsds n (l.map D.int) = true := fun l => by induction l with
    | nil => simp [clsds]
    | cons x l ih => simp [clsds, clsd, ih]
  simp [rowO, clsO, clsds, clsd, h]
theorem put_put (st : Sto) (p : Nat) (o o' : Ob) : (st.put p o).put p o' = st.put p o' := by unfold Sto.put; simp
theorem get_put {st : Sto} {p : Nat} {o o' : Ob} (h : st.get p = some o) : (st.put p o').get p = some o' := by rw [Sto.get_put, if_pos ⟨rfl, Sto.get_lt h⟩]
theorem put_get {st : Sto} {p : Nat} {o : Ob} (h : st.get p = some o) : st.put p o = st := by
  unfold Sto.put Sto.get at *
  have := (List.getElem?_eq_some_iff.mp h)
  obtain ⟨l, e⟩ := this
  rw [← e]
  simp
theorem trim_put {st : Sto} {d : D} {p : Nat} {o : Ob} (ho : clsO st.len o = true) (h : clsd st.len d = true) : trim st d (st.put p o) = st.put p o := trim_row (t := []) (by simp) ho h
theorem trim_putI {st : Sto} {p : Nat} {ns : List Int} (i a b c : Int) : trim st (.int i) (st.put p (rowO ns a b c)) = st.put p (rowO ns a b c) := trim_put (rowO_cl _) (by simp [clsd])
theorem atI_nat {α : Type} (xs : List α) (k : Nat) : atI xs (k : Int) = xs[k]? := by
  unfold atI ixN
  rw [if_pos (Int.natCast_nonneg k)]
  by_cases h : (k : Int) < xs.length
  · rw [if_pos h]; simp
  · rw [if_neg h, List.getElem?_eq_none (by omega)]; rfl
theorem w_taken (n : Nat) {ns : List Int} {a b c m : Int} {p : Nat} {st : Sto} (hp : st.get p = some (rowO ns a b c)) (ha : 0 ≤ a) (hm : 1 ≤ m) (hm2 : m ≤ 1000) :
    ∃ v a' b' c', callN G (n + 1) (.fn F.«_law_taken») [.ref p, .int m] st = .ok (.int v) (st.put p (rowO ns a' b' c')) ∧ 0 ≤ v ∧ v < m ∧ 0 ≤ a' := by
  have m0 : m ≠ 0 := by omega
  have mb : m.natAbs < 1073741824 := by omega
  have hv : ∀ x : Int, 0 ≤ x.fmod m ∧ x.fmod m < m := fun x => ⟨Int.fmod_nonneg_of_pos _ (by omega), Int.fmod_lt_of_pos _ (by omega)⟩
  have k1 : mulOk b 48271 = true := by simp [mulOk, big64]
  have k2 : ∀ x : Int, mulOk (x.fmod 1000003) 31 = true := fun x => by simp [mulOk, big64]
  have hg : ∀ o, (st.put p o).get p = some o := fun o => get_put hp
  simp only [rowO] at hp
  by_cases h1 : 0 < c
  · refine ⟨c.fmod m, a, b, c.fdiv m, ?_, (hv _).1, (hv _).2, ha⟩
    simp [callN, gf.«_law_taken», d.«_law_taken», B.«_law_taken», bodyR, exSs, exS, evE, evEs, R.bind, R.to, SR.seq, ofO, truR, truB, idxV, hp, atI, ixN, cmpV, h1, asgT, binV, biV, biO, grd, m0, mb, setiV, stO, List.set]
    exact trim_putI _ _ _ _
  · by_cases h2 : (ns.length : Int) < a + 1
    · refine ⟨(((b * 48271 + 11).fmod 2147483647).fdiv 7).fmod m, a + 1, (b * 48271 + 11).fmod 2147483647, c, ?_, (hv _).1, (hv _).2, by omega⟩
      simp [callN, gf.«_law_taken», d.«_law_taken», B.«_law_taken», bodyR, exSs, exS, evE, evEs, R.bind, R.to, SR.seq, ofO, truR, truB, idxV, hp, atI, ixN, cmpV, h1, h2, asgT, binV, biV, biO, grd, m0, mb, setiV, stO, List.set, addV, mulV, hg, put_put, k1, k2]
      exact trim_putI _ _ _ _
    · obtain ⟨k, hk⟩ : ∃ k : Nat, a = k := ⟨a.toNat, by omega⟩
      subst hk
      have hlt : k < ns.length := by omega
      have hi : (ns.map D.int)[k]? = some (.int ns[k]) := by rw [List.getElem?_map, List.getElem?_eq_getElem hlt]; rfl
      have hi2 : atI (ns.map D.int) (k : Int) = some (.int ns[k]) := by rw [atI_nat, hi]
      generalize ns[k] = z at hi2
      have a0 : ∀ x y z w : D, atI [x, y, z, w] 0 = some x := fun _ _ _ _ => rfl
      have a1 : ∀ x y z w : D, atI [x, y, z, w] 1 = some y := fun _ _ _ _ => rfl
      have a2 : ∀ x y z w : D, atI [x, y, z, w] 2 = some z := fun _ _ _ _ => rfl
      have a3 : ∀ x y z w : D, atI [x, y, z, w] 3 = some w := fun _ _ _ _ => rfl
      have h2' : ¬ ns.length < k + 1 := by omega
      by_cases h3 : (1000000000000000000 : Int) ≤ z
      · refine ⟨z.fmod m, k + 1, (b * 48271 + z + 11).fmod 2147483647, z.fdiv m, ?_, (hv _).1, (hv _).2, by omega⟩
        simp [callN, gf.«_law_taken», d.«_law_taken», B.«_law_taken», bodyR, exSs, exS, evE, evEs, R.bind, R.to, SR.seq, ofO, truR, truB, idxV, hp, ixN, a0, a1, a2, a3, cmpV, h1, h2, asgT, binV, biV, biO, grd, m0, mb, setiV, stO, List.set, addV, mulV, hg, put_put, k1, k2, hi2, h3, h2']
        exact trim_putI _ _ _ _
      · refine ⟨((z.fmod 1000003) * 31 + ((b * 48271 + z + 11).fmod 2147483647).fdiv 11).fmod m, k + 1, (b * 48271 + z + 11).fmod 2147483647, c, ?_, (hv _).1, (hv _).2, by omega⟩
        simp [callN, gf.«_law_taken», d.«_law_taken», B.«_law_taken», bodyR, exSs, exS, evE, evEs, R.bind, R.to, SR.seq, ofO, truR, truB, idxV, hp, ixN, a0, a1, a2, a3, cmpV, h1, h2, asgT, binV, biV, biO, grd, m0, mb, setiV, stO, List.set, addV, mulV, hg, put_put, k1, k2, hi2, h3, h2']
        exact trim_putI _ _ _ _
end Hr

namespace Hr
open PySem
def Rw (o : Ob) : Prop := ∃ ns a b c, o = rowO ns a b c ∧ 0 ≤ a
theorem Rw.cl {o : Ob} (h : Rw o) (n : Nat) : clsO n o = true := by obtain ⟨ns, a, b, c, rfl, _⟩ := h; exact rowO_cl n
/-- the store but for the row at p and what is new -/
structure Fr (p : Nat) (st st' : Sto) : Prop where
  row : ∃ o, Rw o ∧ st'.get p = some o
  le : st.len ≤ st'.len
  eq : ∀ i, i < st.len → i ≠ p → st'.get i = st.get i
theorem Fr.refl {p : Nat} {st : Sto} {o : Ob} (h : st.get p = some o) (r : Rw o) : Fr p st st := ⟨⟨o, r, h⟩, Nat.le_refl _, fun _ _ _ => rfl⟩
theorem Fr.trans {p : Nat} {a b c : Sto} (x : Fr p a b) (y : Fr p b c) : Fr p a c := ⟨y.row, Nat.le_trans x.le y.le, fun i h n => (y.eq i (Nat.lt_of_lt_of_le h x.le) n).trans (x.eq i h n)⟩
theorem Fr.put {p : Nat} {st : Sto} {o o' : Ob} (h : st.get p = some o) (r : Rw o') : Fr p st (st.put p o') :=
  ⟨⟨o', r, get_put h⟩, by rw [Sto.len_put]; exact Nat.le_refl _, fun i _ n => by rw [Sto.get_put, if_neg (fun z => n z.1)]⟩
theorem Fr.new {p : Nat} {st st' : Sto} {o : Ob} (x : Fr p st st') : Fr p st (st'.new o) := by
  obtain ⟨ob, r, g⟩ := x.row
  refine ⟨⟨ob, r, ?_⟩, by rw [Sto.len_new]; exact Nat.le_succ_of_le x.le, fun i h n => ?_⟩
  · rw [Sto.get_new, if_neg (Nat.ne_of_lt (Sto.get_lt g))]; exact g
  · rw [Sto.get_new, if_neg (Nat.ne_of_lt (Nat.lt_of_lt_of_le h x.le))]; exact x.eq i h n
theorem Fr.putNew {p q : Nat} {st st' : Sto} {o : Ob} (x : Fr p st st') (h : st.len ≤ q) (hp : p < st.len) : Fr p st (st'.put q o) := by
  obtain ⟨ob, r, g⟩ := x.row
  refine ⟨⟨ob, r, ?_⟩, by rw [Sto.len_put]; exact x.le, fun i hi n => ?_⟩
  · rw [Sto.get_put, if_neg (fun z => by omega)]; exact g
  · rw [Sto.get_put, if_neg (fun z => by omega)]; exact x.eq i hi n
theorem Fr.trim {p : Nat} {st st' : Sto} {d : D} {o0 : Ob} (x : Fr p st st') (h0 : st.get p = some o0) (h : clsd st.len d = true) : ∃ o, Rw o ∧ trim st d st' = st.put p o := by
  obtain ⟨o, r, g⟩ := x.row
  refine ⟨o, r, trim_row (t := st'.cells.drop st.len) ?_ (r.cl _) h⟩
  have : (st.put p o).cells = st'.cells.take st.len := by
    apply List.ext_getElem?
    intro i
    by_cases hi : i < st.len
    · rw [List.getElem?_take_of_lt hi]
      show (st.put p o).get i = st'.get i
      by_cases e : i = p
      · subst e; rw [get_put h0, g]
      · rw [Sto.get_put, if_neg (fun z => e z.1), x.eq i hi e]
    · rw [List.getElem?_eq_none (by simp [Sto.put]; unfold Sto.len at hi; omega), List.getElem?_eq_none (by simp; omega)]
  rw [this, List.take_append_drop]
theorem w_take (n : Nat) {p : Nat} {st : Sto} {o : Ob} {m : Int} (hp : st.get p = some o) (r : Rw o) (hm : 1 ≤ m) (hm2 : m ≤ 1000) :
    ∃ v o', callN G (n + 1) (.fn F.«_law_taken») [.ref p, .int m] st = .ok (.int v) (st.put p o') ∧ Rw o' ∧ 0 ≤ v ∧ v < m := by
  obtain ⟨ns, a, b, c, rfl, ha⟩ := r
  obtain ⟨v, a', b', c', h1, h2, h3, h4⟩ := w_taken n hp ha hm hm2
  exact ⟨v, _, h1, ⟨ns, a', b', c', rfl, h4⟩, h2, h3⟩
theorem w_pick (n : Nat) {p q : Nat} {st : Sto} {o : Ob} {xs : List D} (hp : st.get p = some o) (r : Rw o) (hq : st.get q = some (.lst xs)) (hne : q ≠ p) (h1 : 1 ≤ xs.length) (h2 : xs.length ≤ 1000) (hc : clsds st.len xs = true) :
    ∃ x o', callN G (n + 2) (.fn F.«_law_pick») [.ref p, .ref q] st = .ok x (st.put p o') ∧ Rw o' ∧ x ∈ xs := by
  obtain ⟨v, o', e, r', v0, v1⟩ := w_take n hp r (m := (xs.length : Int)) (by omega) (by omega)
  obtain ⟨k, rfl⟩ : ∃ k : Nat, v = k := ⟨v.toNat, by omega⟩
  have hk : k < xs.length := by omega
  have hq' : (st.put p o').get q = some (.lst xs) := by rw [Sto.get_put, if_neg (fun z => hne z.1)]; exact hq
  have cl : clsd st.len xs[k] = true := by
    have : ∀ (l : List D) (j : Nat) (h : j < l.length), clsds st.len l = true → clsd st.len l[j] = true := fun l => by
      induction l with
      | nil => intro j h; simp at h
      | cons y l ih =>
        intro j h c
        simp only [clsds, Bool.and_eq_true] at c
        cases j with
        | zero => exact c.1
        | succ j => exact ih j (by simpa using h) c.2
    exact this xs k hk hc
  refine ⟨xs[k], o', ?_, r', List.getElem_mem hk⟩
  rw [callN]
  simp [gf.«_law_pick», d.«_law_pick», B.«_law_pick», bodyR, exSs, exS, evE, evEs, R.bind, R.to, SR.seq, ofO, biV, biO, biL, hq, e, idxV, hq', atI_nat, List.getElem?_eq_getElem hk]
  exact trim_put (r'.cl _) cl
end Hr

namespace Hr
open PySem
inductive Wd where
  | o | s | c
deriving DecidableEq
def wS : Wd → Str
  | .o => "open"
  | .s => "say"
  | .c => "close"
def uD (u : Int × Wd) : D := .tup [.int u.1, .str (wS u.2)]
def opn (us : List (Int × Wd)) : Bool := match us.getLast? with
  | some u => decide (u.2 ≠ .c)
  | none => false
inductive Val : List (Int × Wd) → Prop
  | nil : Val []
  | snoc {us : List (Int × Wd)} {u : Int × Wd} : Val us → 0 ≤ u.1 → u.1 ≤ 999 → (∀ l, us.getLast? = some l → l.1 ≤ u.1) → decide (u.2 = .o) = !opn us → Val (us ++ [u])
theorem opn_snoc (us : List (Int × Wd)) (u : Int × Wd) : opn (us ++ [u]) = decide (u.2 ≠ .c) := by simp [opn]
theorem uD_cl {n : Nat} : ∀ us : List (Int × Wd), clsds n (us.map uD) = true
  | [] => by simp [clsds]
  | u :: us => by simp only [List.map_cons, clsds, uD, clsd, uD_cl us]; rfl
theorem wS_o : (wS .o == ("close" : Str)) = false := by decide +kernel
theorem str_eq (a b : Str) : decide (a = b) = (a == b) := by
  by_cases h : a = b
  · subst h; simp
  · simp [h]
/-- the body of the law's loop that draws the updates -/
theorem w_upd_turn (n : Nat) {p : Nat} {st st' : Sto} {most now : Int} {us : List (Int × Wd)} {x : D} {e5 e6 : Option D} (hp : p < st.len) (F0 : Fr p st st') (hg : st'.get st.len = some (.lst (us.map uD))) (hv : Val us) (h0 : 0 ≤ now) (h1 : now ≤ 999) (hl : ∀ l, us.getLast? = some l → l.1 ≤ now) (hlen : us.length < 100) :
    ∃ now' us' e6' st2, exSs G (callN G (n + 2)) Y.«_law_updates_0» [some (.ref p), some (.int most), some (.int now), some (.bl (opn us)), some (.ref st.len), some x, e6] st' = .nx [some (.ref p), some (.int most), some (.int now'), some (.bl (opn us')), some (.ref st.len), some x, e6'] st2 ∧
      Fr p st st2 ∧ st2.get st.len = some (.lst (us'.map uD)) ∧ Val us' ∧ 0 ≤ now' ∧ now' ≤ 999 ∧ (∀ l, us'.getLast? = some l → l.1 ≤ now') ∧ us'.length = us.length + 1 := by
  unfold Y.«_law_updates_0»
  obtain ⟨o, r, g⟩ := F0.row
  -- the first pick
  have gl : st'.len ≠ p := by have := F0.le; omega
  have g1 : (st'.new (.lst [.int 1, .int 4, .int 30])).get p = some o := by rw [Sto.get_new, if_neg (fun z => gl z.symm)]; exact g
  obtain ⟨y, o1, e1, r1, m1⟩ := w_pick n (q := st'.len) (xs := [.int 1, .int 4, .int 30]) g1 r (by rw [Sto.get_new, if_pos rfl]) gl (by simp) (by simp) (by simp [clsds, clsd])
  obtain ⟨z, rfl, z0, z1⟩ : ∃ z : Int, y = .int z ∧ 1 ≤ z ∧ z ≤ 1000 := by
    simp at m1
    rcases m1 with rfl | rfl | rfl
    · exact ⟨1, rfl, by omega, by omega⟩
    · exact ⟨4, rfl, by omega, by omega⟩
    · exact ⟨30, rfl, by omega, by omega⟩
  generalize hs1 : (st'.new (.lst [.int 1, .int 4, .int 30])).put p o1 = s1 at e1
  have F1 : Fr p st s1 := by
    rw [← hs1]
    exact (F0.new).trans (Fr.put g1 r1)
  have gq1 : s1.get st.len = some (.lst (us.map uD)) := by
    rw [← hs1, Sto.get_put, if_neg (fun q => by omega), Sto.get_new, if_neg (by have := Sto.get_lt hg; omega)]
    exact hg
  have gp1 : s1.get p = some o1 := by rw [← hs1]; exact get_put g1
  obtain ⟨v, o2, e2, r2, v0, v1⟩ := w_take (n + 1) gp1 r1 z0 z1
  generalize hs2 : s1.put p o2 = s2 at e2
  have F2 : Fr p st s2 := by rw [← hs2]; exact F1.trans (Fr.put gp1 r2)
  have gq2 : s2.get st.len = some (.lst (us.map uD)) := by rw [← hs2, Sto.get_put, if_neg (fun q => by omega)]; exact gq1
  have gp2 : s2.get p = some o2 := by rw [← hs2]; exact get_put gp1
  have hnow : 0 ≤ (if now + v < 999 then now + v else 999) ∧ (if now + v < 999 then now + v else 999) ≤ 999 ∧ now ≤ (if now + v < 999 then now + v else 999) := by split <;> omega
  generalize hnw : (if now + v < 999 then now + v else 999) = now' at hnow
  have hz : us.length < 16777216 := by omega
  have hoc : ¬ (Str.ofString "open" = Str.ofString "close") := by decide +kernel
  cases ho : opn us with
  | false =>
    refine ⟨now', us ++ [(now', .o)], some (.str "open"), s2.put st.len (.lst ((us ++ [(now', Wd.o)]).map uD)), ?_, F2.putNew (Nat.le_refl _) hp, get_put gq2, .snoc hv hnow.1 hnow.2.1 (fun l h => Int.le_trans (hl l h) hnow.2.2) (by rw [ho]; rfl), hnow.1, hnow.2.1, fun l h => by simp at h; rw [← h]; exact Int.le_refl _, by simp⟩
    rw [opn_snoc]
    simp [exSs, exS, evE, evEs, R.bind, R.to, SR.seq, e1, e2, binV, addV, biV, hnw, asgT, truR, truB, ofO, grd, cmpV, eqV, okD, eqT, bmTy, bmV, gq2, List.length_map, sizeLine, ho, hz, hoc]
    rfl
  | true =>
    have gl2 : s2.len ≠ p := by have := F2.le; omega
    have g2 : (s2.new (.lst [.str "say", .str "say", .str "close"])).get p = some o2 := by rw [Sto.get_new, if_neg (fun z => gl2 z.symm)]; exact gp2
    obtain ⟨y, o3, e3, r3, m3⟩ := w_pick n (q := s2.len) (xs := [.str "say", .str "say", .str "close"]) g2 r2 (by rw [Sto.get_new, if_pos rfl]) gl2 (by simp) (by simp) (by simp [clsds, clsd])
    obtain ⟨wd, rfl, hwd⟩ : ∃ wd : Wd, y = .str (wS wd) ∧ wd ≠ .o := by
      simp at m3
      rcases m3 with rfl | rfl
      · exact ⟨.s, rfl, by decide⟩
      · exact ⟨.c, rfl, by decide⟩
    generalize hs3 : (s2.new (.lst [.str "say", .str "say", .str "close"])).put p o3 = s3 at e3
    have F3 : Fr p st s3 := by rw [← hs3]; exact (F2.new).trans (Fr.put g2 r3)
    have gq3 : s3.get st.len = some (.lst (us.map uD)) := by
      rw [← hs3, Sto.get_put, if_neg (fun q => by omega), Sto.get_new, if_neg (by have := Sto.get_lt gq2; omega)]
      exact gq2
    refine ⟨now', us ++ [(now', wd)], some (.str (wS wd)), s3.put st.len (.lst ((us ++ [(now', wd)]).map uD)), ?_, F3.putNew (Nat.le_refl _) hp, get_put gq3, .snoc hv hnow.1 hnow.2.1 (fun l h => Int.le_trans (hl l h) hnow.2.2) (by rw [ho]; simpa using hwd), hnow.1, hnow.2.1, fun l h => by simp at h; rw [← h]; exact Int.le_refl _, by simp⟩
    rw [opn_snoc]
    simp [exSs, exS, evE, evEs, R.bind, R.to, SR.seq, e1, e2, binV, addV, biV, hnw, asgT, truR, truB, ofO, grd, cmpV, eqV, okD, eqT, bmTy, bmV, gq3, List.length_map, sizeLine, ho, hz, hoc, e3]
    refine ⟨?_, rfl⟩
    cases wd with
    | o => exact absurd rfl hwd
    | s => exact ⟨fun h => absurd h (by decide +kernel), fun h => nomatch h⟩
    | c => exact ⟨fun _ => rfl, fun _ => rfl⟩
end Hr

namespace Hr
open PySem
theorem rng_len (k : Int) : (rngI 0 k).length = k.toNat := by simp [rngI]
theorem w_updates (n : Nat) {p : Nat} {st : Sto} {o : Ob} {most : Int} (hp : st.get p = some o) (r : Rw o) (h0 : 0 ≤ most) (h1 : most ≤ 60) :
    ∃ us o', callN G (n + 3) (.fn F.«_law_updates») [.ref p, .int most] st = .ok (.tup (us.map uD)) (st.put p o') ∧ Rw o' ∧ Val us ∧ us.length ≤ 60 := by
  have hpl := Sto.get_lt hp
  obtain ⟨now, o1, e1, r1, v0, v1⟩ := w_take (n + 1) hp r (m := 9) (by omega) (by omega)
  generalize hs1 : st.put p o1 = s1 at e1
  have F1 : Fr p st s1 := by rw [← hs1]; exact Fr.put hp r1
  have gp1 : s1.get p = some o1 := by rw [← hs1]; exact get_put hp
  have l1 : s1.len = st.len := by rw [← hs1, Sto.len_put]
  have gp1' : (s1.new (.lst [])).get p = some o1 := by rw [Sto.get_new, if_neg (by omega)]; exact gp1
  obtain ⟨k, o2, e2, r2, k0, k1⟩ := w_take (n + 1) gp1' r1 (m := most + 1) (by omega) (by omega)
  generalize hs2 : (s1.new (.lst [])).put p o2 = s2 at e2
  have F2 : Fr p st s2 := by rw [← hs2]; exact (F1.new).trans (Fr.put gp1' r2)
  have gq2 : s2.get st.len = some (.lst (([] : List (Int × Wd)).map uD)) := by
    rw [← hs2, Sto.get_put, if_neg (fun q => by omega), Sto.get_new, if_pos l1.symm]; rfl
  have loop := forL_rule (lk := .no) (t := .nm 5) (body := exSs G (callN G (n + 2)) Y.«_law_updates_0») (fun xs env st' => ∃ us now e5 e6, env = [some (.ref p), some (.int most), some (.int now), some (.bl (opn us)), some (.ref st.len), e5, e6] ∧ Fr p st st' ∧ st'.get st.len = some (.lst (us.map uD)) ∧ Val us ∧ 0 ≤ now ∧ now ≤ 999 ∧ (∀ l, us.getLast? = some l → l.1 ≤ now) ∧ us.length + xs.length = k.toNat)
    (fun _ _ _ _ => trivial) (fun x xs env st' h => by
      obtain ⟨us, now, e5, e6, rfl, f, g, hv, n0, n1, hl, hlen⟩ := h
      obtain ⟨now', us', e6', st2, q1, q2, q3, q4, q5, q6, q7, q8⟩ := w_upd_turn n (most := most) (x := x) (e6 := e6) (e5 := e5) hpl f g hv n0 n1 hl (by simp at hlen; omega)
      refine ⟨_, _, _, rfl, .inl q1, us', now', some x, e6', rfl, q2, q3, q4, q5, q6, q7, ?_⟩
      simp at hlen; omega)
    (rngI 0 k) [some (.ref p), some (.int most), some (.int now), some (.bl false), some (.ref st.len), none, none] s2
    ⟨[], now, none, none, rfl, F2, gq2, .nil, v0, by omega, fun l h => by simp at h, by rw [rng_len]; simp⟩
  obtain ⟨env', st', e3, us, now', e5, e6, rfl, F3, g3, hv, _, _, _, hlen⟩ := loop
  have hlen : us.length = k.toNat := by simpa using hlen
  obtain ⟨o', r', et⟩ := F3.trim hp (d := .tup (us.map uD)) (by simp only [clsd]; exact uD_cl us)
  refine ⟨us, o', ?_, r', hv, by omega⟩
  have sm : small62 k = true := by unfold small62; simp; omega
  rw [callN]
  simp [gf.«_law_updates», d.«_law_updates», B.«_law_updates», bodyR]
  simp [exSs, exS, evE, evEs, evI, R.bind, R.to, R.toI, SR.seq, e1, grd, asgT, asgT.asgTs, sizeLine, binV, addV, e2, rngV, sm, ofO, l1]
  have e4 : forL Lk.no (T.nm 5) (fun x x_1 => exSs G (callN G (n + 2)) Y.«_law_updates_0» x x_1) (rngI 0 k) [some (.ref p), some (.int most), some (.int now), some (.bl false), some (.ref st.len), none, none] s2 = _ := e3
  simp [e3, exSs, exS, evE, evEs, biV, biO, biL, g3, R.bind, R.to]
  exact et
end Hr

namespace Hr
open PySem
/-- what a call makes of its body's end -/
noncomputable def retR (st : Sto) (r : SR) : R D := match r with
  | .rt d st1 => .ok d (trim st d st1)
  | .nx _ st1 => .ok .non (trim st .non st1)
  | .exc c xs _ st1 => .exc c xs st1
  | _ => .bad
theorem call_eq {n f : Nat} {fd : Fd} {vs : List D} {st : Sto} {env : Env} (h : G.fd f = some fd) (hl : vs.length = fd.many) (he : vs.map some ++ List.replicate (fd.slots - fd.many) none = env) : callN G (n + 1) (.fn f) vs st = retR st (exSs G (callN G n) fd.body env st) := by
  rw [callN]
  simp only [h, bodyR, if_pos hl, he]
  unfold retR
  cases exSs G (callN G n) fd.body env st <;> rfl
theorem at20 (a b : D) : atI [a, b] 0 = some a := rfl
theorem at21 (a b : D) : atI [a, b] 1 = some b := rfl
theorem cmpL_map {α : Type} {lk : Lk} {own : List Nat} {t : Hr.T} {cond : Env → Sto → R Bool} {elt : Env → Sto → R (List D)} {env : Env} {st : Sto} (enc : α → D) (b : α → Bool) (f : α → D) (e1 : α → Env) (hs : lk.stands st) :
    ∀ xs : List α, (∀ x ∈ xs, asgT t (enc x) (wipe env own) = some (e1 x) ∧ cond (e1 x) st = .ok (b x) st ∧ (b x = true → elt (e1 x) st = .ok [f x] st)) → cmpL lk own t cond elt env (xs.map enc) st = .ok ((xs.filter b).map f) st := by
  intro xs
  induction xs with
  | nil => intro _; simp only [List.map_nil, cmpL]; rw [if_pos hs]; rfl
  | cons x xs ih =>
    intro h
    obtain ⟨h1, h2, h3⟩ := h x List.mem_cons_self
    have ih := ih fun y hy => h y (List.mem_cons_of_mem _ hy)
    simp only [List.map_cons, cmpL]
    rw [if_pos hs, h1]
    dsimp only
    rw [h2]
    cases hb : b x with
    | true => simp only [R.bind, h3 hb, ih, List.filter_cons, hb, if_true, List.map_cons]; rfl
    | false => simp only [R.bind, ih, List.filter_cons, hb]; rfl
theorem atI_last {α : Type} (xs : List α) : atI xs (-1) = xs.getLast? := by
  unfold atI ixN
  rw [if_neg (by omega)]
  cases xs with
  | nil => simp
  | cons x xs =>
    rw [if_pos (by simp; omega)]
    simp [List.getLast?_eq_getElem?]
    rw [show ((-1 : Int) + ((xs.length : Int) + 1)).toNat = xs.length by omega]
    exact List.getElem?_eq_getElem (by simp)
theorem wS_inj {a b : Wd} : (wS a = wS b) ↔ a = b := by
  constructor
  · intro h
    cases a <;> cases b <;> first | rfl | exact absurd h (by decide +kernel)
  · intro h; rw [h]
def cnt (w : Wd) (us : List (Int × Wd)) : Nat := (us.filter fun u => decide (u.2 = w)).length
theorem cnt_snoc (w : Wd) (us : List (Int × Wd)) (u : Int × Wd) : cnt w (us ++ [u]) = cnt w us + (if u.2 = w then 1 else 0) := by
  unfold cnt
  rw [List.filter_append, List.length_append]
  by_cases h : u.2 = w <;> simp [h]
theorem Val.cnt {us : List (Int × Wd)} (h : Val us) : cnt .o us = cnt .c us + (if opn us then 1 else 0) := by
  induction h with
  | nil => rfl
  | @snoc us u hv _ _ _ hw ih =>
    rw [cnt_snoc, cnt_snoc, opn_snoc, ih]
    cases e : opn us <;> rw [e] at hw <;> (obtain ⟨t, w⟩ := u; cases w <;> simp at hw ⊢)
theorem w_has_form (n : Nat) (u : Int × Wd) (st : Sto) (h0 : 0 ≤ u.1) (h1 : u.1 ≤ 999) : callN G (n + 3) (.fn F.«has_form») [uD u] st = .ok (.bl true) st := by
  have e1 := w_is_row (n + 1) [.int u.1, .str (wS u.2)] 2 st
  have e2 := w_is_within n u.1 0 999 st
  have hin : inB (.str (wS u.2)) [.str "open", .str "say", .str "close"] = true := by
    obtain ⟨t, w⟩ := u
    cases w <;> simp [inB, wS, eqT]
  rw [callN]
  simp [gf.«has_form», d.«has_form», B.«has_form», bodyR, uD, exSs, exS, evE, evEs, R.bind, R.to, SR.seq, ofO, truR, truB, e1, e2, h0, h1, idxV, atI, ixN, gq.«MOST_MOMENT», gq.«OPEN», gq.«SAY», gq.«CLOSE», isTys, isTy, grd, cmpV, inV, okD, hin, sizeLine, trim_self]
theorem w_is_update (n : Nat) (us : List (Int × Wd)) (u : Int × Wd) (st : Sto) (hv : Val us) (h0 : 0 ≤ u.1) (h1 : u.1 ≤ 999) (hl : ∀ l, us.getLast? = some l → l.1 ≤ u.1) (hw : decide (u.2 = .o) = !opn us) (hlen : us.length < 1000) :
    callN G (n + 4) (.fn F.«is_update») [uD u, .tup (us.map uD)] st = .ok (.bl true) st := by
  have e1 := w_has_form n u st h0 h1
  have ecmp : ∀ (w : Wd) (g : Nat), G.con g = some (.str (wS w)) → cmpL Lk.no [3] (T.nm 3) (evT G (callN G (n + 3)) (.cons (.cmp .eq (.idx (.var 3) (.int 1)) (.glo g)) .nil)) (fun env st => oneL (evE G (callN G (n + 3)) (.var 3) env st)) [some (uD u), some (.tup (us.map uD)), none, none] (us.map uD) st
      = .ok ((us.filter fun x => decide (x.2 = w)).map uD) st := fun w g hg => by
    refine cmpL_map uD _ uD (fun x => [some (uD u), some (.tup (us.map uD)), none, some (uD x)]) (show Lk.stands .no st from trivial) us fun x _ => ⟨rfl, ?_, fun _ => ?_⟩
    · simp [evT, evE, R.bind, idxV, uD, atI, ixN, ofO, hg, cmpV, eqV, okD, eqT, truR, truB, wS_inj]
      by_cases h : x.2 = w <;> simp [h]
    · simp [evE, oneL, R.bind]
  have eo := ecmp .o Q.«OPEN» gq.«OPEN»
  have ec := ecmp .c Q.«CLOSE» gq.«CLOSE»
  have hlast : ∀ l, (us.map uD).getLast? = some (uD l) → l.1 ≤ u.1 := fun l h => by
    rw [List.getLast?_map] at h
    cases e : us.getLast? with
    | none => rw [e] at h; cases h
    | some l' =>
      rw [e] at h
      simp [uD] at h
      have := hl l' e
      rw [← h.1]; exact this
  have hgt : decide ((cnt .c us : Int) < (cnt .o us : Int)) = opn us := by
    have := hv.cnt
    cases e : opn us <;> rw [e] at this <;> simp at this ⊢ <;> omega
  have hlo : (us.filter fun x => decide (x.2 = Wd.o)).length ≤ sizeLine := Nat.le_trans (List.length_filter_le _ _) (Nat.le_trans (Nat.le_of_lt hlen) (by decide))
  have hlc : (us.filter fun x => decide (x.2 = Wd.c)).length ≤ sizeLine := Nat.le_trans (List.length_filter_le _ _) (Nat.le_trans (Nat.le_of_lt hlen) (by decide))
  have first : evE G (callN G (n + 3)) (.or (.not (.call F.«has_form» (.cons (.var 0) .nil))) (.and (.cmp .gt (.bi .len (.cons (.var 1) .nil)) (.int 0)) (.cmp .lt (.idx (.var 0) (.int 0)) (.idx (.idx (.var 1) (.neg (.int 1))) (.int 0))))) [some (uD u), some (.tup (us.map uD)), none, none] st = .ok (.bl false) st := by
    simp [evE, evEs, R.bind, e1, truR, truB, ofO, biV, biO, biT, cmpV]
    cases hu : us.getLast? with
    | none =>
      have : us = [] := List.getLast?_eq_none_iff.mp hu
      subst this
      simp
    | some l =>
      have hne : 0 < us.length := by
        cases us with
        | nil => simp at hu
        | cons => simp
      have hll := hl l hu
      simp [hne, idxV, atI_last, List.getLast?_map, hu, uD, at20, okD, cmpb, ltB]
      exact hll
  have hI : evI G (callN G (n + 3)) (.ex (.var 1)) [some (uD u), some (.tup (us.map uD)), none, none] st = .ok (us.map uD, .no) st := by simp [evI, evE, R.bind, exI, ofO]
  have fo : evE G (callN G (n + 3)) (.fz .len (.var 3) (.one [3] (.nm 3) (.ex (.var 1)) (.cons (.cmp .eq (.idx (.var 3) (.int 1)) (.glo Q.«OPEN»)) .nil))) [some (uD u), some (.tup (us.map uD)), none, none] st = .ok (.int (cnt .o us)) st := by
    rw [evE, evCl, hI]
    simp only [R.bind]
    rw [eo]
    simp [grd, hlo, biL, cnt]
  have fc : evE G (callN G (n + 3)) (.fz .len (.var 3) (.one [3] (.nm 3) (.ex (.var 1)) (.cons (.cmp .eq (.idx (.var 3) (.int 1)) (.glo Q.«CLOSE»)) .nil))) [some (uD u), some (.tup (us.map uD)), none, none] st = .ok (.int (cnt .c us)) st := by
    rw [evE, evCl, hI]
    simp only [R.bind]
    rw [ec]
    simp [grd, hlc, biL, cnt]
  have gt : evE G (callN G (n + 3)) (.cmp .gt (.fz .len (.var 3) (.one [3] (.nm 3) (.ex (.var 1)) (.cons (.cmp .eq (.idx (.var 3) (.int 1)) (.glo Q.«OPEN»)) .nil))) (.fz .len (.var 3) (.one [3] (.nm 3) (.ex (.var 1)) (.cons (.cmp .eq (.idx (.var 3) (.int 1)) (.glo Q.«CLOSE»)) .nil)))) [some (uD u), some (.tup (us.map uD)), none, none] st = .ok (.bl (opn us)) st := by
    rw [evE, fo]
    simp only [R.bind]
    rw [fc]
    simp only [cmpV, ofO, hgt]
  rw [call_eq (env := [some (uD u), some (.tup (us.map uD)), none, none]) gf.«is_update» rfl rfl]
  simp only [d.«is_update», B.«is_update», exSs, exS]
  rw [first]
  simp only [R.to, truB, SR.seq]
  rw [gt]
  simp [evE, R.bind, R.to, asgT, uD, idxV, at21, gq.«OPEN», ofO, eqV, okD, eqT, cmpV, retR, trim_self]
  rw [show decide (wS u.2 = Str.ofString "open") = decide (u.2 = Wd.o) from by rw [show (Str.ofString "open") = wS .o from rfl]; simp [wS_inj]]
  rw [hw]
  cases opn us <;> simp
end Hr

namespace Hr
open PySem
theorem enumD_drop {xs : List D} {i : Nat} (h : i < xs.length) : (enumD xs).drop i = .tup [.int (i : Nat), xs[i]] :: (enumD xs).drop (i + 1) := by
  have hl : i < (enumD xs).length := by simp [enumD]; exact h
  rw [List.drop_eq_getElem_cons hl]
  congr 1
  simp [enumD]
theorem enumD_end (xs : List D) : (enumD xs).drop xs.length = [] := by
  apply List.drop_eq_nil_of_le
  simp [enumD]
theorem Val.at {us : List (Int × Wd)} (h : Val us) : ∀ (i : Nat) (hi : i < us.length), Val (us.take i) ∧ 0 ≤ us[i].1 ∧ us[i].1 ≤ 999 ∧ (∀ l, (us.take i).getLast? = some l → l.1 ≤ us[i].1) ∧ decide (us[i].2 = .o) = !opn (us.take i) := by
  induction h with
  | nil => intro i hi; simp at hi
  | @snoc us u hv h0 h1 h2 h3 ih =>
    intro i hi
    by_cases k : i < us.length
    · have := ih i k
      rw [List.take_append_of_le_length (Nat.le_of_lt k), List.getElem_append_left k]
      exact this
    · have : i = us.length := by simp at hi; omega
      subst this
      rw [List.take_left, List.getElem_append_right (Nat.le_refl _)]
      simp
      exact ⟨hv, h0, h1, fun a b h => h2 (a, b) h, by simpa using h3⟩
theorem cut_take {α : Type} (xs : List α) (i : Nat) : cut xs none (some (i : Int)) = xs.take i := by
  unfold cut sIx
  simp
  rw [if_neg (by omega)]
  omega
theorem w_first_wrong (n : Nat) (us : List (Int × Wd)) (st : Sto) (hv : Val us) (hlen : us.length ≤ 60) : callN G (n + 5) (.fn F.«first_wrong») [.tup (us.map uD), .int 0, .int 60, .fn F.«is_update»] st = .ok .non st := by
  have loop := forL_rule (lk := .no) (t := .tp [.nm 4, .nm 5]) (body := exSs G (callN G (n + 4)) Y.«first_wrong_0») (fun xs env st' => st' = st ∧ ∃ i e4 e5, i ≤ us.length ∧ xs = (enumD (us.map uD)).drop i ∧ env = [some (.tup (us.map uD)), some (.int 0), some (.int 60), some (.fn F.«is_update»), e4, e5])
    (fun _ _ _ _ => trivial) (fun x xs env st' h => by
      obtain ⟨rfl, i, e4, e5, hi, hx, rfl⟩ := h
      have hlt : i < us.length := by
        by_cases q : i < us.length
        · exact q
        · have : i = (us.map uD).length := by simp; omega
          rw [this, enumD_end] at hx; cases hx
      rw [enumD_drop (by simpa using hlt)] at hx
      cases hx
      obtain ⟨a1, a2, a3, a4, a5⟩ := hv.at i hlt
      have e := w_is_update n (us.take i) us[i] st' a1 a2 a3 a4 a5 (by simp; omega)
      refine ⟨_, [some (.tup (us.map uD)), some (.int 0), some (.int 60), some (.fn F.«is_update»), some (.int (i : Nat)), some (uD us[i])], st', rfl, .inl ?_, rfl, i + 1, _, _, hlt, rfl, rfl⟩
      simp [Y.«first_wrong_0», exSs, exS, evE, evEs, R.bind, R.to, SR.seq, intO, sliV, cut_take, truR, truB, ofO]
      rw [← List.map_take, e]
      simp [R.bind, truB])
    (enumD (us.map uD)) [some (.tup (us.map uD)), some (.int 0), some (.int 60), some (.fn F.«is_update»), none, none] st ⟨rfl, 0, none, none, Nat.zero_le _, rfl, rfl⟩
  obtain ⟨env', st', e3, rfl, i, e4, e5, hi, _, rfl⟩ := loop
  rw [call_eq (env := [some (.tup (us.map uD)), some (.int 0), some (.int 60), some (.fn F.«is_update»), none, none]) gf.«first_wrong» rfl rfl]
  have e3' : forL Lk.no (T.tp [T.nm 4, T.nm 5]) (fun x x_1 => exSs G (callN G (n + 4)) Y.«first_wrong_0» x x_1) (enumD (us.map uD)) [some (.tup (us.map uD)), some (.int 0), some (.int 60), some (.fn F.«is_update»), none, none] st' = _ := e3
  have h60 : (us.length : Int) ≤ 60 := by omega
  simp [d.«first_wrong», B.«first_wrong», exSs, exS, evE, evEs, evI, R.bind, R.to, R.toI, SR.seq, truR, truB, ofO, isTys, isTy, cmpV, biV, biO, biT, h60, enumI, e3', retR, trim_self]
theorem w_require_updates (n : Nat) (us : List (Int × Wd)) (st : Sto) (hv : Val us) (hlen : us.length ≤ 60) : callN G (n + 6) (.fn F.«require_updates») [.tup (us.map uD)] st = .ok .non st := by
  have e := w_first_wrong n us st hv hlen
  rw [call_eq (env := [some (.tup (us.map uD)), none]) gf.«require_updates» rfl rfl]
  simp [d.«require_updates», B.«require_updates», exSs, exS, evE, evEs, R.bind, R.to, SR.seq, ofO, gq.«MOST_ROWS», e, asgT, truB, isNonD, retR, trim_self]
theorem w_require_every (n : Nat) (e : Int) (st : Sto) (h0 : 1 ≤ e) (h1 : e ≤ 99) : callN G (n + 3) (.fn F.«require_every») [.int e] st = .ok .non st := by
  have h := w_is_within n e 1 99 st
  rw [call_eq (env := [some (.int e)]) gf.«require_every» rfl rfl]
  simp [d.«require_every», B.«require_every», exSs, exS, evE, evEs, R.bind, R.to, SR.seq, ofO, gq.«MOST_EVERY», h, h0, h1, truR, truB, retR, trim_self]
/-! ### the spells -/
/-- what spells finds, from the place i on -/
def spl (e : Int) : List (Int × Wd) → List (Int × Int)
  | [] => []
  | u :: r => (if u.2 ≠ .c then [(u.1, match r with
    | [] => if u.1 > e then u.1 else e
    | v :: _ => v.1)] else []) ++ spl e r
def prD (p : Int × Int) : D := .tup [.int p.1, .int p.2]
theorem new_put (st : Sto) (o o' : Ob) : (st.new o).put st.len o' = st.new o' := by unfold Sto.new Sto.put Sto.len; simp
theorem new_get (st : Sto) (o : Ob) : (st.new o).get st.len = some o := by rw [Sto.get_new, if_pos rfl]
theorem spl_drop (e : Int) {us : List (Int × Wd)} {i : Nat} (h : i < us.length) : spl e (us.drop i) = (if us[i].2 ≠ .c then [(us[i].1, if h2 : i + 1 < us.length then us[i + 1].1 else if us[i].1 > e then us[i].1 else e)] else []) ++ spl e (us.drop (i + 1)) := by
  rw [List.drop_eq_getElem_cons h]
  show (if us[i].2 ≠ .c then [(us[i].1, match us.drop (i + 1) with
    | [] => if us[i].1 > e then us[i].1 else e
    | v :: _ => v.1)] else []) ++ spl e (us.drop (i + 1)) = _
  by_cases h2 : i + 1 < us.length
  · rw [List.drop_eq_getElem_cons h2, dif_pos h2]
  · rw [List.drop_eq_nil_of_le (by omega), dif_neg h2]
theorem spl_len (e : Int) : ∀ us : List (Int × Wd), (spl e us).length ≤ us.length
  | [] => by simp [spl]
  | u :: r => by
    have := spl_len e r
    simp only [spl, List.length_append, List.length_cons]
    split <;> simp <;> omega
theorem es_nil {C : Calls} {env : Env} {st : Sto} : evEs G C .nil env st = .ok [] st := by simp only [evEs]
theorem es_cons {C : Calls} {env : Env} {st st1 st2 : Sto} {e : E} {es : Es} {x : D} {xs : List D} (h1 : evE G C e env st = .ok x st1) (h2 : evEs G C es env st1 = .ok xs st2) : evEs G C (.cons e es) env st = .ok (x :: xs) st2 := by
  rw [evEs, h1]
  simp only [R.bind]
  rw [h2]
theorem at_map {us : List (Int × Wd)} {j : Nat} (h : j < us.length) : atI (us.map uD) ((j : Nat) : Int) = some (uD us[j]) := by
  rw [atI_nat, List.getElem?_map, List.getElem?_eq_getElem h]; rfl
theorem sp_turn (n : Nat) (us : List (Int × Wd)) (i : Nat) (t e : Int) (w : Wd) (acc : List (Int × Int)) (st : Sto) (hacc : acc.length < sizeLine) :
    exSs G (callN G n) Y.«spells_0» [some (.tup (us.map uD)), some (.int e), some (.ref st.len), some (.int (i : Nat)), some (.int t), some (.str (wS w))] (st.new (.lst (acc.map prD))) =
      .nx [some (.tup (us.map uD)), some (.int e), some (.ref st.len), some (.int (i : Nat)), some (.int t), some (.str (wS w))] (st.new (.lst ((acc ++ (if w ≠ .c then [(t, if h2 : i + 1 < us.length then us[i + 1].1 else if t > e then t else e)] else [])).map prD))) := by
  have cnd : evE G (callN G n) (.cmp .ne (.var 5) (.glo Q.«CLOSE»)) [some (.tup (us.map uD)), some (.int e), some (.ref st.len), some (.int (i : Nat)), some (.int t), some (.str (wS w))] (st.new (.lst (acc.map prD))) = .ok (.bl (decide (w ≠ .c))) (st.new (.lst (acc.map prD))) := by
    have : (wS w = Str.ofString "close") = (w = Wd.c) := by rw [show Str.ofString "close" = wS .c from rfl]; simp [wS_inj]
    simp [evE, R.bind, ofO, gq.«CLOSE», cmpV, eqV, okD, eqT, this]
  have lt : evE G (callN G n) (.cmp .lt (.bin .add (.var 3) (.int 1)) (.bi .len (.cons (.var 0) .nil))) [some (.tup (us.map uD)), some (.int e), some (.ref st.len), some (.int (i : Nat)), some (.int t), some (.str (wS w))] (st.new (.lst (acc.map prD))) = .ok (.bl (decide (i + 1 < us.length))) (st.new (.lst (acc.map prD))) := by
    have : ((i : Int) + 1 < us.length) = (i + 1 < us.length) := by apply propext; omega
    simp [evE, evEs, R.bind, ofO, binV, addV, biV, biO, biT, cmpV, okD, cmpb, ltB, this]
  have itm : evE G (callN G n) (.ite (.cmp .lt (.bin .add (.var 3) (.int 1)) (.bi .len (.cons (.var 0) .nil))) (.idx (.idx (.var 0) (.bin .add (.var 3) (.int 1))) (.int 0)) (.bi .max (.cons (.var 1) (.cons (.var 4) .nil)))) [some (.tup (us.map uD)), some (.int e), some (.ref st.len), some (.int (i : Nat)), some (.int t), some (.str (wS w))] (st.new (.lst (acc.map prD))) = .ok (.int (if h2 : i + 1 < us.length then us[i + 1].1 else if t > e then t else e)) (st.new (.lst (acc.map prD))) := by
    rw [evE, lt]
    by_cases h2 : i + 1 < us.length
    · have hidx : (i : Int) + 1 = ((i + 1 : Nat) : Int) := by omega
      have q := at_map h2
      simp [truR, R.bind, ofO, truB, h2, evE, binV, addV, idxV]
      rw [hidx, q]
      simp [uD, at20]
    · simp [truR, R.bind, ofO, truB, h2, evE, evEs, biV]
  have tp : evE G (callN G n) (.tup (.cons (.var 4) (.cons (.ite (.cmp .lt (.bin .add (.var 3) (.int 1)) (.bi .len (.cons (.var 0) .nil))) (.idx (.idx (.var 0) (.bin .add (.var 3) (.int 1))) (.int 0)) (.bi .max (.cons (.var 1) (.cons (.var 4) .nil)))) .nil))) [some (.tup (us.map uD)), some (.int e), some (.ref st.len), some (.int (i : Nat)), some (.int t), some (.str (wS w))] (st.new (.lst (acc.map prD))) = .ok (prD (t, if h2 : i + 1 < us.length then us[i + 1].1 else if t > e then t else e)) (st.new (.lst (acc.map prD))) := by
    rw [evE, es_cons (x := .int t) (by simp [evE]) (es_cons itm es_nil)]
    simp [R.bind, grd, sizeLine, prD]
  have ap : evE G (callN G n) (.bm .append (.var 2) (.cons (.tup (.cons (.var 4) (.cons (.ite (.cmp .lt (.bin .add (.var 3) (.int 1)) (.bi .len (.cons (.var 0) .nil))) (.idx (.idx (.var 0) (.bin .add (.var 3) (.int 1))) (.int 0)) (.bi .max (.cons (.var 1) (.cons (.var 4) .nil)))) .nil))) .nil)) [some (.tup (us.map uD)), some (.int e), some (.ref st.len), some (.int (i : Nat)), some (.int t), some (.str (wS w))] (st.new (.lst (acc.map prD))) = .ok .non (st.new (.lst ((acc ++ [(t, if h2 : i + 1 < us.length then us[i + 1].1 else if t > e then t else e)]).map prD))) := by
    rw [evE, show evE G (callN G n) (.var 2) [some (.tup (us.map uD)), some (.int e), some (.ref st.len), some (.int (i : Nat)), some (.int t), some (.str (wS w))] (st.new (.lst (acc.map prD))) = .ok (.ref st.len) (st.new (.lst (acc.map prD))) from by simp [evE]]
    simp only [R.bind]
    rw [es_cons tp es_nil]
    simp [grd, bmTy, new_get, bmV, hacc, new_put]
  simp only [Y.«spells_0», exSs, exS]
  rw [cnd]
  cases w with
  | c => simp [R.to, truB, SR.seq, exSs]
  | o =>
    simp only [R.to, truB]
    rw [show (decide (Wd.o ≠ Wd.c)) = true from rfl]
    simp only [SR.seq]
    rw [ap]
    simp [R.to, SR.seq]
  | s =>
    simp only [R.to, truB]
    rw [show (decide (Wd.s ≠ Wd.c)) = true from rfl]
    simp only [SR.seq]
    rw [ap]
    simp [R.to, SR.seq]
theorem w_spells (n : Nat) (us : List (Int × Wd)) (e : Int) (st : Sto) (hlen : us.length ≤ 60) : callN G (n + 1) (.fn F.«spells») [.tup (us.map uD), .int e] st = .ok (.ref st.len) (st.new (.lst ((spl e us).map prD))) := by
  have loop := forL_rule (lk := .no) (t := .tp [.nm 3, .tp [.nm 4, .nm 5]]) (body := exSs G (callN G n) Y.«spells_0») (fun xs env st' => ∃ i acc e3 e4 e5, i ≤ us.length ∧ st' = st.new (.lst (acc.map prD)) ∧ acc ++ spl e (us.drop i) = spl e us ∧ xs = (enumD (us.map uD)).drop i ∧ env = [some (.tup (us.map uD)), some (.int e), some (.ref st.len), e3, e4, e5])
    (fun _ _ _ _ => trivial) (fun x xs env st' h => by
      obtain ⟨i, acc, e3, e4, e5, hi, rfl, ha, hx, rfl⟩ := h
      have hlt : i < us.length := by
        by_cases q : i < us.length
        · exact q
        · have : i = (us.map uD).length := by simp; omega
          rw [this, enumD_end] at hx; cases hx
      rw [enumD_drop (by simpa using hlt)] at hx
      cases hx
      rw [spl_drop e hlt] at ha
      have hacc : acc.length < sizeLine := by
        have := congrArg List.length ha
        have h2 := spl_len e us
        simp at this
        have : sizeLine = 16777216 := rfl
        omega
      refine ⟨[some (.tup (us.map uD)), some (.int e), some (.ref st.len), some (.int (i : Nat)), some (.int us[i].1), some (.str (wS us[i].2))], [some (.tup (us.map uD)), some (.int e), some (.ref st.len), some (.int (i : Nat)), some (.int us[i].1), some (.str (wS us[i].2))], st.new (.lst ((acc ++ (if us[i].2 ≠ .c then [(us[i].1, if h2 : i + 1 < us.length then us[i + 1].1 else if us[i].1 > e then us[i].1 else e)] else [])).map prD)), ?_, .inl ?_, i + 1, _, _, _, _, hlt, rfl, by rw [List.append_assoc]; exact ha, rfl, rfl⟩
      · rw [List.getElem_map]; rfl
      · rw [sp_turn n us i us[i].1 e us[i].2 acc st hacc])
    (enumD (us.map uD)) [some (.tup (us.map uD)), some (.int e), some (.ref st.len), none, none, none] (st.new (.lst [])) ⟨0, [], none, none, none, Nat.zero_le _, rfl, rfl, rfl, rfl⟩
  obtain ⟨env', st', e3, i, acc, _, _, _, hi, rfl, ha, hx, rfl⟩ := loop
  have hl : i = us.length := by
    by_cases q : i < (us.map uD).length
    · rw [enumD_drop q] at hx; cases hx
    · simp at q; omega
  subst hl
  rw [List.drop_length] at ha
  have ha : acc = spl e us := by simpa [spl] using ha
  subst ha
  rw [call_eq (env := [some (.tup (us.map uD)), some (.int e), none, none, none, none]) gf.«spells» rfl rfl]
  have e3' : forL Lk.no (T.tp [T.nm 3, T.tp [T.nm 4, T.nm 5]]) (fun x x_1 => exSs G (callN G n) Y.«spells_0» x x_1) (enumD (us.map uD)) [some (.tup (us.map uD)), some (.int e), some (.ref st.len), none, none, none] (st.new (.lst [])) = _ := e3
  simp [d.«spells», B.«spells», exSs, exS, evE, evEs, evI, R.bind, R.to, R.toI, SR.seq, ofO, grd, asgT, enumI, e3', retR]
  unfold trim
  rw [if_neg (by simp [clsd])]
end Hr

namespace Hr
open PySem
def Rl (lo hi : Int) : List Int := (List.range (hi - lo).toNat).map fun (i : Nat) => lo + (i : Int)
theorem rngI_eq (lo hi : Int) : rngI lo hi = (Rl lo hi).map D.int := by simp [rngI, Rl]
theorem Rl_len (lo hi : Int) : (Rl lo hi).length = (hi - lo).toNat := by simp [Rl]
theorem Val.all {us : List (Int × Wd)} (h : Val us) : ∀ u ∈ us, 0 ≤ u.1 ∧ u.1 ≤ 999 := by
  induction h with
  | nil => simp
  | @snoc us u _ h0 h1 _ _ ih =>
    intro x hx
    rcases List.mem_append.mp hx with hx | hx
    · exact ih x hx
    · rw [List.mem_singleton.mp hx]; exact ⟨h0, h1⟩
theorem spl_bd {e : Int} (h0 : 0 ≤ e) (h1 : e ≤ 999) : ∀ us : List (Int × Wd), (∀ u ∈ us, 0 ≤ u.1 ∧ u.1 ≤ 999) → ∀ p ∈ spl e us, 0 ≤ p.1 ∧ p.1 ≤ 999 ∧ 0 ≤ p.2 ∧ p.2 ≤ 999
  | [], _, p, hp => by simp [spl] at hp
  | u :: r, h, p, hp => by
    have hu := h u List.mem_cons_self
    have hr := fun x hx => h x (List.mem_cons_of_mem _ hx)
    simp only [spl, List.mem_append] at hp
    rcases hp with hp | hp
    · split at hp
      · rw [List.mem_singleton.mp hp]
        cases r with
        | nil => simp only; split <;> omega
        | cons v r => have := hr v List.mem_cons_self; simp only; omega
      · cases hp
    · exact spl_bd h0 h1 r hr p hp
def ovl (every : Int) (ps : List (Int × Int)) : List Int := ps.flatMap fun p => Rl (p.1 + every) p.2
theorem ovl_len {every : Int} (h : 0 ≤ every) : ∀ ps : List (Int × Int), (∀ p ∈ ps, 0 ≤ p.1 ∧ p.2 ≤ 999) → (ovl every ps).length ≤ 1000 * ps.length
  | [], _ => by simp [ovl]
  | p :: ps, hp => by
    have h1 := ovl_len h ps fun q hq => hp q (List.mem_cons_of_mem _ hq)
    have h2 := hp p List.mem_cons_self
    simp only [ovl, List.flatMap_cons, List.length_append, List.length_cons, Rl_len] at h1 ⊢
    omega
theorem w_rng (n : Nat) {env : Env} {st : Sto} {a b : E} {x y : Int} (h1 : evE G (callN G n) a env st = .ok (.int x) st) (h2 : evE G (callN G n) b env st = .ok (.int y) st) (hx : -5000 ≤ x ∧ x ≤ 5000) (hy : -5000 ≤ y ∧ y ≤ 5000) :
    evI G (callN G n) (.rng (.cons a (.cons b .nil))) env st = .ok ((Rl x y).map D.int, .no) st := by
  rw [evI, es_cons h1 (es_cons h2 es_nil)]
  have s1 : small62 x = true := by unfold small62; simp; omega
  have s2 : small62 y = true := by unfold small62; simp; omega
  simp [R.bind, rngV, s1, s2, ofO, rngI_eq]
theorem ov_turn (n : Nat) {st st' : Sto} {us : List D} {every en f l : Int} {acc : List Int} {e6 : Option D} (hg : st'.get st.len = some (.lst (acc.map D.int))) (hf : 0 ≤ f ∧ f ≤ 999) (hl : 0 ≤ l ∧ l ≤ 999) (he : 0 ≤ every ∧ every ≤ 999) (hacc : acc.length ≤ 100000) :
    exSs G (callN G n) Y.«overdue_of_0» [some (.tup us), some (.int every), some (.int en), some (.ref st.len), some (.int f), some (.int l), e6] st' =
      .nx [some (.tup us), some (.int every), some (.int en), some (.ref st.len), some (.int f), some (.int l), e6] ((st'.new (.lst ((Rl (f + every) l).map D.int))).put st.len (.lst ((acc ++ Rl (f + every) l).map D.int))) := by
  have hlt := Sto.get_lt hg
  have r := w_rng n (env := [some (.tup us), some (.int every), some (.int en), some (.ref st.len), some (.int f), some (.int l), e6]) (st := st') (a := .bin .add (.var 4) (.var 1)) (b := .var 5) (x := f + every) (y := l) (by simp [evE, R.bind, binV, addV]) (by simp [evE]) (by omega) (by omega)
  have cm : cmpL Lk.no [6] (T.nm 6) (evT G (callN G n) .nil) (fun env st => oneL (evE G (callN G n) (.var 6) env st)) [some (.tup us), some (.int every), some (.int en), some (.ref st.len), some (.int f), some (.int l), e6] ((Rl (f + every) l).map D.int) st' = .ok ((Rl (f + every) l).map D.int) st' := by
    have := cmpL_map (lk := .no) (own := [6]) (t := .nm 6) (cond := evT G (callN G n) .nil) (elt := fun env st => oneL (evE G (callN G n) (.var 6) env st)) (env := [some (.tup us), some (.int every), some (.int en), some (.ref st.len), some (.int f), some (.int l), e6]) (st := st') D.int (fun _ => true) D.int (fun x => [some (.tup us), some (.int every), some (.int en), some (.ref st.len), some (.int f), some (.int l), some (.int x)]) (show Lk.stands .no st' from trivial) (Rl (f + every) l) (fun x _ => ⟨rfl, by simp [evT], fun _ => by simp [evE, oneL, R.bind]⟩)
    rw [List.filter_eq_self.mpr (by simp)] at this
    exact this
  have lc : evE G (callN G n) (.lc (.var 6) (.one [6] (.nm 6) (.rng (.cons (.bin .add (.var 4) (.var 1)) (.cons (.var 5) .nil))) .nil)) [some (.tup us), some (.int every), some (.int en), some (.ref st.len), some (.int f), some (.int l), e6] st' = .ok (.ref st'.len) (st'.new (.lst ((Rl (f + every) l).map D.int))) := by
    rw [evE, evCl, r]
    simp only [R.bind]
    rw [cm]
    have : (Rl (f + every) l).length ≤ sizeLine := by rw [Rl_len]; have : sizeLine = 16777216 := rfl; omega
    simp [grd, this]
  have g1 : (st'.new (.lst ((Rl (f + every) l).map D.int))).get st.len = some (.lst (acc.map D.int)) := by rw [Sto.get_new, if_neg (by omega)]; exact hg
  have sz : acc.length + (Rl (f + every) l).length ≤ sizeLine := by rw [Rl_len]; have : sizeLine = 16777216 := rfl; omega
  simp only [Y.«overdue_of_0», exSs, exS]
  rw [evE, show evE G (callN G n) (.var 3) [some (.tup us), some (.int every), some (.int en), some (.ref st.len), some (.int f), some (.int l), e6] st' = .ok (.ref st.len) st' from by simp [evE]]
  simp only [R.bind]
  rw [es_cons lc es_nil]
  simp [grd, bmTy, hg, bmV, g1, new_get, sz, R.to, SR.seq]
theorem w_overdue_of (n : Nat) (us : List (Int × Wd)) (every e : Int) (st : Sto) (hv : Val us) (hlen : us.length ≤ 60) (h0 : 0 ≤ e) (h1 : e ≤ 999) (he : 0 ≤ every ∧ every ≤ 999) :
    ∃ st', callN G (n + 2) (.fn F.«overdue_of») [.tup (us.map uD), .int every, .int e] st = .ok (.ref st.len) st' ∧ st'.get st.len = some (.lst ((ovl every (spl e us)).map D.int)) ∧ ∃ t, st'.cells = st.cells ++ t := by
  have bd := spl_bd h0 h1 us hv.all
  have slen := spl_len e us
  have loop := forL_rule (lk := .li (st.len + 1) ((spl e us).map prD)) (t := .tp [.nm 4, .nm 5]) (body := exSs G (callN G (n + 1)) Y.«overdue_of_0») (fun xs env st' => st'.get (st.len + 1) = some (.lst ((spl e us).map prD)) ∧ (∀ i, i < st.len → st'.get i = st.get i) ∧ ∃ j e4 e5, j ≤ (spl e us).length ∧ st'.get st.len = some (.lst ((ovl every ((spl e us).take j)).map D.int)) ∧ xs = ((spl e us).drop j).map prD ∧ env = [some (.tup (us.map uD)), some (.int every), some (.int e), some (.ref st.len), e4, e5, none])
    (fun _ _ _ h => h.1) (fun x xs env st' h => by
      obtain ⟨hs, hk, j, e4, e5, hj, hg, hx, rfl⟩ := h
      have hlt : j < (spl e us).length := by
        by_cases q : j < (spl e us).length
        · exact q
        · rw [List.drop_eq_nil_of_le (by omega)] at hx; cases hx
      rw [List.drop_eq_getElem_cons hlt] at hx
      cases hx
      have bj := bd _ (List.getElem_mem hlt)
      have hal : (ovl every ((spl e us).take j)).length ≤ 100000 := by
        have := ovl_len he.1 ((spl e us).take j) fun p hp => ⟨(bd p (List.mem_of_mem_take hp)).1, (bd p (List.mem_of_mem_take hp)).2.2.2⟩
        rw [List.length_take] at this
        omega
      have q := ov_turn (n + 1) (us := us.map uD) (every := every) (en := e) (f := (spl e us)[j].1) (l := (spl e us)[j].2) (e6 := none) hg ⟨bj.1, bj.2.1⟩ bj.2.2 he hal
      have hlt2 := Sto.get_lt hs
      refine ⟨_, _, _, rfl, .inl q, ?_, fun i hi => ?_, j + 1, _, _, hlt, ?_, rfl, rfl⟩
      · rw [Sto.get_put, if_neg (fun z => by omega), Sto.get_new, if_neg (by omega)]; exact hs
      · rw [Sto.get_put, if_neg (fun z => by omega), Sto.get_new, if_neg (by omega)]; exact hk i hi
      · rw [Sto.get_put, if_pos ⟨rfl, by rw [Sto.len_new]; omega⟩, List.take_succ_eq_append_getElem hlt]
        simp only [ovl, List.flatMap_append, List.flatMap_cons, List.flatMap_nil, List.append_nil])
    ((spl e us).map prD) [some (.tup (us.map uD)), some (.int every), some (.int e), some (.ref st.len), none, none, none] ((st.new (.lst [])).new (.lst ((spl e us).map prD)))
    ⟨by rw [Sto.get_new, if_pos (by rw [Sto.len_new])], fun i hi => by rw [Sto.get_new, if_neg (by rw [Sto.len_new]; omega), Sto.get_new, if_neg (by omega)], 0, none, none, Nat.zero_le _, by rw [Sto.get_new, if_neg (by rw [Sto.len_new]; omega), new_get]; simp [ovl], rfl, rfl⟩
  obtain ⟨env', st', e3, hs, hk, j, e4, e5, hj, hg, hx, rfl⟩ := loop
  have hjl : j = (spl e us).length := by
    by_cases q : j < (spl e us).length
    · rw [List.drop_eq_getElem_cons q] at hx; cases hx
    · omega
  subst hjl
  rw [List.take_length] at hg
  have sp := w_spells n us e (st.new (.lst [])) hlen
  rw [Sto.len_new] at sp
  refine ⟨st', ?_, hg, st'.cells.drop st.len, ?_⟩
  · rw [call_eq (env := [some (.tup (us.map uD)), some (.int every), some (.int e), none, none, none, none]) gf.«overdue_of» rfl rfl]
    have e3' : forL (Lk.li (st.len + 1) ((spl e us).map prD)) (T.tp [T.nm 4, T.nm 5]) (fun x x_1 => exSs G (callN G (n + 1)) Y.«overdue_of_0» x x_1) ((spl e us).map prD) [some (.tup (us.map uD)), some (.int every), some (.int e), some (.ref st.len), none, none, none] ((st.new (.lst [])).new (.lst ((spl e us).map prD))) = _ := e3
    simp [d.«overdue_of», B.«overdue_of», exSs, exS, evE, evEs, evI, R.bind, R.to, R.toI, SR.seq, ofO, grd, asgT, sp, exI, Sto.get_new, Sto.len_new, e3', retR]
    unfold trim
    rw [if_neg (by simp [clsd])]
  · have : st'.cells.take st.len = st.cells := by
      apply List.ext_getElem?
      intro i
      by_cases hi : i < st.len
      · rw [List.getElem?_take_of_lt hi]; exact hk i hi
      · rw [List.getElem?_eq_none (by simp; omega), List.getElem?_eq_none (by unfold Sto.len at hi; omega)]
    conv => rhs; rw [← this]
    rw [List.take_append_drop]
end Hr

namespace Hr
open PySem
section
variable {C : Calls} {env env1 : Env} {st st1 : Sto} {e c : E} {a : Ss} {ss : Ss} {d : D} {t : Hr.T}
theorem x_expr (h : evE G C e env st = .ok d st1) : exSs G C (.cons (.expr e) ss) env st = exSs G C ss env st1 := by
  rw [exSs, exS, h]; rfl
theorem x_if0 (h : evE G C c env st = .ok (.bl false) st1) : exSs G C (.cons (.iff c a .nil) ss) env st = exSs G C ss env st1 := by
  rw [exSs, exS, h]
  simp only [R.to, truB, exSs, SR.seq]
theorem x_if1 (h : evE G C c env st = .ok (.bl true) st1) : exSs G C (.cons (.iff c a .nil) ss) env st = (exSs G C a env st1).seq (exSs G C ss) := by
  rw [exSs, exS, h]
  simp only [R.to, truB]
theorem x_ret (h : evE G C e env st = .ok d st1) : exSs G C (.cons (.ret e) ss) env st = .rt d st1 := by
  rw [exSs, exS, h]; rfl
theorem x_asg (h : evE G C e env st = .ok d st1) (ha : asgT t d env = some env1) : exSs G C (.cons (.asg t e) ss) env st = exSs G C ss env1 st1 := by
  rw [exSs, exS, h]
  simp only [R.to, ha, SR.seq]
theorem x_nil : exSs G C .nil env st = .nx env st := by rw [exSs]
theorem x_for {it : I} {b : Ss} {xs : List D} {lk : Lk} {env2 : Env} {st2 : Sto} (h : evI G C it env st = .ok (xs, lk) st1) (hf : forL lk t (exSs G C b) xs env st1 = .nx env2 st2) : exSs G C (.cons (.forr t it b) ss) env st = exSs G C ss env2 st2 := by
  rw [exSs, exS, h]
  simp only [R.toI]
  rw [hf]; rfl
end
theorem asInts_map : ∀ ns : List Int, asInts (ns.map D.int) = some ns
  | [] => rfl
  | n :: ns => by simp [asInts, asInts_map ns]
theorem ints_cl {n : Nat} : ∀ ns : List Int, clsds n (ns.map D.int) = true
  | [] => by simp [clsds]
  | x :: l => by simp [clsds, clsd, ints_cl l]
def mnI (a b : Int) : Int := if b < a then b else a
def mxI (a b : Int) : Int := if b > a then b else a
theorem w_overdue (n : Nat) (us : List (Int × Wd)) (every e : Int) (st : Sto) (hv : Val us) (hlen : us.length ≤ 60) (h0 : 0 ≤ e) (h1 : e ≤ 999) (he : 1 ≤ every ∧ every ≤ 99) :
    callN G (n + 7) (.fn F.«overdue») [.tup (us.map uD), .int every, .int e] st = .ok (.tup (((ovl every (spl e us)).filter fun m => decide (m < e)).map D.int)) st := by
  have e1 := w_require_updates n us st hv hlen
  have e2 := w_require_every (n + 3) every st he.1 he.2
  have e3 := w_is_within (n + 4) e 0 999 st
  obtain ⟨st', e4, g, t, ht⟩ := w_overdue_of (n + 4) us every e st hv hlen h0 h1 ⟨by omega, by omega⟩
  have cm : cmpL (Lk.li st.len ((ovl every (spl e us)).map D.int)) [3] (T.nm 3) (evT G (callN G (n + 6)) (.cons (.cmp .lt (.var 3) (.var 2)) .nil)) (fun env st => oneL (evE G (callN G (n + 6)) (.var 3) env st)) [some (.tup (us.map uD)), some (.int every), some (.int e), none] ((ovl every (spl e us)).map D.int) st' = .ok (((ovl every (spl e us)).filter fun m => decide (m < e)).map D.int) st' := by
    refine cmpL_map D.int _ D.int (fun x => [some (.tup (us.map uD)), some (.int every), some (.int e), some (.int x)]) (show Lk.stands (.li st.len _) st' from g) (ovl every (spl e us)) fun x _ => ⟨rfl, ?_, fun _ => ?_⟩
    · simp [evT, evE, R.bind, cmpV, okD, cmpb, ltB, truR, ofO, truB]
      by_cases q : x < e <;> simp [q]
    · simp [evE, oneL, R.bind]
  have sz : ((ovl every (spl e us)).filter fun m => decide (m < e)).length ≤ sizeLine := by
    have bd := spl_bd h0 h1 us hv.all
    have q1 := ovl_len (every := every) (by omega) (spl e us) fun p hp => ⟨(bd p hp).1, (bd p hp).2.2.2⟩
    have q2 := spl_len e us
    have q3 := List.length_filter_le (fun m => decide (m < e)) (ovl every (spl e us))
    have : sizeLine = 16777216 := rfl
    omega
  have fz : evE G (callN G (n + 6)) (.fz .tuple (.var 3) (.one [3] (.nm 3) (.ex (.call F.«overdue_of» (.cons (.var 0) (.cons (.var 1) (.cons (.var 2) .nil))))) (.cons (.cmp .lt (.var 3) (.var 2)) .nil))) [some (.tup (us.map uD)), some (.int every), some (.int e), none] st = .ok (.tup (((ovl every (spl e us)).filter fun m => decide (m < e)).map D.int)) st' := by
    have hI : evI G (callN G (n + 6)) (.ex (.call F.«overdue_of» (.cons (.var 0) (.cons (.var 1) (.cons (.var 2) .nil))))) [some (.tup (us.map uD)), some (.int every), some (.int e), none] st = .ok ((ovl every (spl e us)).map D.int, .li st.len ((ovl every (spl e us)).map D.int)) st' := by
      simp [evI, evE, evEs, R.bind, e4, exI, g, ofO]
    rw [evE, evCl, hI]
    simp only [R.bind]
    rw [cm]
    simp [grd, sz, biL]
  rw [call_eq (env := [some (.tup (us.map uD)), some (.int every), some (.int e), none]) gf.«overdue» rfl rfl]
  simp only [d.«overdue», B.«overdue»]
  rw [x_expr (d := .non) (st1 := st) (by simp [evE, evEs, R.bind, e1]), x_expr (d := .non) (st1 := st) (by simp [evE, evEs, R.bind, e2]),
    x_if0 (st1 := st) (by simp [evE, evEs, R.bind, e3, gq.«MOST_MOMENT», ofO, h0, h1, truR, truB]), x_ret fz]
  simp only [retR]
  rw [trim_kp ht (by simp only [clsd]; exact ints_cl _)]
theorem w_are_kept (n : Nat) (us : List (Int × Wd)) (every e : Int) (st : Sto) (hv : Val us) (hlen : us.length ≤ 60) (h0 : 0 ≤ e) (h1 : e ≤ 999) (he : 1 ≤ every ∧ every ≤ 99) :
    callN G (n + 8) (.fn F.«are_kept») [.tup (us.map uD), .int every, .int e] st = .ok (.bl (decide (((ovl every (spl e us)).filter fun m => decide (m < e)) = []))) st := by
  have e1 := w_overdue n us every e st hv hlen h0 h1 he
  generalize ((ovl every (spl e us)).filter fun m => decide (m < e)) = L at e1
  have e2 : evE G (callN G (n + 7)) (.cmp .eq (.call F.«overdue» (.cons (.var 0) (.cons (.var 1) (.cons (.var 2) .nil)))) (.tup .nil)) [some (.tup (us.map uD)), some (.int every), some (.int e)] st = .ok (.bl (decide (L = []))) st := by
    have ok : ∀ l : List Int, (okD 40 (.tup (l.map D.int))) = true := fun l => by
      simp [okD]
    simp [evE, evEs, R.bind, e1, grd, sizeLine, cmpV, eqV, okD, ofO, eqT]
    cases L <;> simp [eqTs]
  rw [call_eq (env := [some (.tup (us.map uD)), some (.int every), some (.int e)]) gf.«are_kept» rfl rfl]
  simp only [d.«are_kept», B.«are_kept»]
  rw [x_ret e2]
  simp only [retR, trim_self]
end Hr

namespace Hr
open PySem
def omL (e : Int) (ps : List (Int × Int)) : List Int := ps.map fun p => mxI 0 (mnI p.2 e - p.1)
def leL (e : Int) (ps : List (Int × Int)) : List Int := ps.map fun p => mnI p.2 e - p.1
theorem cm23 {C : Calls} {own : List Nat} {st : Sto} {a b : D} {lk : Lk} {e : E} (f : Int × Int → Int) (ps : List (Int × Int)) (hs : lk.stands st)
    (h : ∀ p : Int × Int, evE G C e [some a, some b, some (.int p.1), some (.int p.2)] st = .ok (.int (f p)) st) :
    cmpL lk [2, 3] (.tp [.nm 2, .nm 3]) (evT G C .nil) (fun env st => oneL (evE G C e env st)) [some a, some b, none, none] (ps.map prD) st = .ok ((ps.map f).map D.int) st := by
  have := cmpL_map (lk := lk) (own := [2, 3]) (t := .tp [.nm 2, .nm 3]) (cond := evT G C .nil) (elt := fun env st => oneL (evE G C e env st)) (env := [some a, some b, none, none]) (st := st) prD (fun _ => true) (fun p => .int (f p)) (fun p => [some a, some b, some (.int p.1), some (.int p.2)]) hs ps (fun p _ => ⟨rfl, by simp [evT], fun _ => by simp [h, oneL, R.bind]⟩)
  rw [List.filter_eq_self.mpr (by simp)] at this
  rw [this, List.map_map]; rfl
theorem w_open_moments (n : Nat) (us : List (Int × Wd)) (e : Int) (st : Sto) (hv : Val us) (hlen : us.length ≤ 60) (h0 : 0 ≤ e) (h1 : e ≤ 999) :
    callN G (n + 7) (.fn F.«open_moments») [.tup (us.map uD), .int e] st = .ok (.int (omL e (spl e us)).sum) st := by
  have e1 := w_require_updates n us st hv hlen
  have e3 := w_is_within (n + 4) e 0 999 st
  have sp := w_spells (n + 5) us e st hlen
  have slen := spl_len e us
  have g : (st.new (.lst ((spl e us).map prD))).get st.len = some (.lst ((spl e us).map prD)) := new_get _ _
  have cm := cm23 (C := callN G (n + 6)) (own := []) (st := st.new (.lst ((spl e us).map prD))) (a := .tup (us.map uD)) (b := .int e) (lk := .li st.len ((spl e us).map prD)) (e := .bi .max (.cons (.int 0) (.cons (.bin .sub (.bi .min (.cons (.var 3) (.cons (.var 1) .nil))) (.var 2)) .nil))) (fun p => mxI 0 (mnI p.2 e - p.1)) (spl e us) g (fun p => by simp [evE, evEs, R.bind, biV, binV, mxI, mnI])
  have sz : ((spl e us).map fun p => mxI 0 (mnI p.2 e - p.1)).length ≤ sizeLine := by rw [List.length_map]; have : sizeLine = 16777216 := rfl; omega
  have hI : evI G (callN G (n + 6)) (.ex (.call F.«spells» (.cons (.var 0) (.cons (.var 1) .nil)))) [some (.tup (us.map uD)), some (.int e), none, none] st = .ok ((spl e us).map prD, .li st.len ((spl e us).map prD)) (st.new (.lst ((spl e us).map prD))) := by
    simp [evI, evE, evEs, R.bind, sp, exI, g, ofO]
  have fz : evE G (callN G (n + 6)) (.fz .sum (.bi .max (.cons (.int 0) (.cons (.bin .sub (.bi .min (.cons (.var 3) (.cons (.var 1) .nil))) (.var 2)) .nil))) (.one [2, 3] (.tp [(.nm 2), (.nm 3)]) (.ex (.call F.«spells» (.cons (.var 0) (.cons (.var 1) .nil)))) .nil)) [some (.tup (us.map uD)), some (.int e), none, none] st = .ok (.int (omL e (spl e us)).sum) (st.new (.lst ((spl e us).map prD))) := by
    rw [evE, evCl, hI]
    simp only [R.bind]
    rw [cm]
    simp only [biL, asInts_map, List.length_map, grd, omL]
    rw [show decide ((spl e us).length ≤ sizeLine) = true from by simpa using sz]
  rw [call_eq (env := [some (.tup (us.map uD)), some (.int e), none, none]) gf.«open_moments» rfl rfl]
  simp only [d.«open_moments», B.«open_moments»]
  rw [x_expr (d := .non) (st1 := st) (by simp [evE, evEs, R.bind, e1]), x_if0 (st1 := st) (by simp [evE, evEs, R.bind, e3, gq.«MOST_MOMENT», ofO, h0, h1, truR, truB]), x_ret fz]
  simp only [retR]
  rw [trim_kp (st' := st.new (.lst ((spl e us).map prD))) (t := [.lst ((spl e us).map prD)]) rfl (by simp [clsd])]
theorem w_least_every (n : Nat) (us : List (Int × Wd)) (e : Int) (st : Sto) (hv : Val us) (hlen : us.length ≤ 60) (h0 : 0 ≤ e) (h1 : e ≤ 999) :
    callN G (n + 7) (.fn F.«least_every») [.tup (us.map uD), .int e] st = .ok (.int (maxI 1 (leL e (spl e us)))) st := by
  have e1 := w_require_updates n us st hv hlen
  have e3 := w_is_within (n + 4) e 0 999 st
  have sp := w_spells (n + 5) us e (st.new (.lst [.int 1])) hlen
  have slen := spl_len e us
  have g : ((st.new (.lst [.int 1])).new (.lst ((spl e us).map prD))).get (st.new (.lst [.int 1])).len = some (.lst ((spl e us).map prD)) := new_get _ _
  have cm := cm23 (C := callN G (n + 6)) (own := []) (st := (st.new (.lst [.int 1])).new (.lst ((spl e us).map prD))) (a := .tup (us.map uD)) (b := .int e) (lk := .li (st.new (.lst [.int 1])).len ((spl e us).map prD)) (e := .bin .sub (.bi .min (.cons (.var 3) (.cons (.var 1) .nil))) (.var 2)) (fun p => mnI p.2 e - p.1) (spl e us) g (fun p => by simp [evE, evEs, R.bind, biV, binV, mnI])
  have hI : evI G (callN G (n + 6)) (.ex (.call F.«spells» (.cons (.var 0) (.cons (.var 1) .nil)))) [some (.tup (us.map uD)), some (.int e), none, none] (st.new (.lst [.int 1])) = .ok ((spl e us).map prD, .li (st.new (.lst [.int 1])).len ((spl e us).map prD)) ((st.new (.lst [.int 1])).new (.lst ((spl e us).map prD))) := by
    simp [evI, evE, evEs, R.bind, sp, exI, g, ofO]
  have szd : decide ((spl e us).length ≤ sizeLine) = true := by
    have : sizeLine = 16777216 := rfl
    exact decide_eq_true (by omega)
  have lc : evE G (callN G (n + 6)) (.lc (.bin .sub (.bi .min (.cons (.var 3) (.cons (.var 1) .nil))) (.var 2)) (.one [2, 3] (.tp [(.nm 2), (.nm 3)]) (.ex (.call F.«spells» (.cons (.var 0) (.cons (.var 1) .nil)))) .nil)) [some (.tup (us.map uD)), some (.int e), none, none] (st.new (.lst [.int 1])) = .ok (.ref ((st.new (.lst [.int 1])).new (.lst ((spl e us).map prD))).len) (((st.new (.lst [.int 1])).new (.lst ((spl e us).map prD))).new (.lst ((leL e (spl e us)).map D.int))) := by
    rw [evE, evCl, hI]
    simp only [R.bind]
    rw [cm]
    simp only [List.length_map, grd, leL]
    rw [szd]
  generalize hs2 : (st.new (.lst [.int 1])).new (.lst ((spl e us).map prD)) = s2 at lc
  have g1 : (s2.new (.lst ((leL e (spl e us)).map D.int))).get st.len = some (.lst [.int 1]) := by
    rw [← hs2, Sto.get_new, if_neg (by simp [Sto.len_new]; omega), Sto.get_new, if_neg (by simp [Sto.len_new]), new_get]
  have sz2 : decide (1 + (leL e (spl e us)).length ≤ sizeLine) = true := by
    have : sizeLine = 16777216 := rfl
    exact decide_eq_true (by simp [leL]; omega)
  have mx : evE G (callN G (n + 6)) (.bi .max (.cons (.bin .add (.lst (.cons (.int 1) .nil)) (.lc (.bin .sub (.bi .min (.cons (.var 3) (.cons (.var 1) .nil))) (.var 2)) (.one [2, 3] (.tp [(.nm 2), (.nm 3)]) (.ex (.call F.«spells» (.cons (.var 0) (.cons (.var 1) .nil)))) .nil))) .nil)) [some (.tup (us.map uD)), some (.int e), none, none] st = .ok (.int (maxI 1 (leL e (spl e us)))) ((s2.new (.lst ((leL e (spl e us)).map D.int))).new (.lst (.int 1 :: (leL e (spl e us)).map D.int))) := by
    have h1 : evE G (callN G (n + 6)) (.lst (.cons (.int 1) .nil)) [some (.tup (us.map uD)), some (.int e), none, none] st = .ok (.ref st.len) (st.new (.lst [.int 1])) := by simp [evE, evEs, R.bind, grd, sizeLine]
    have ad : evE G (callN G (n + 6)) (.bin .add (.lst (.cons (.int 1) .nil)) (.lc (.bin .sub (.bi .min (.cons (.var 3) (.cons (.var 1) .nil))) (.var 2)) (.one [2, 3] (.tp [(.nm 2), (.nm 3)]) (.ex (.call F.«spells» (.cons (.var 0) (.cons (.var 1) .nil)))) .nil))) [some (.tup (us.map uD)), some (.int e), none, none] st = .ok (.ref (s2.new (.lst ((leL e (spl e us)).map D.int))).len) ((s2.new (.lst ((leL e (spl e us)).map D.int))).new (.lst (.int 1 :: (leL e (spl e us)).map D.int))) := by
      rw [evE, h1]
      simp only [R.bind]
      rw [lc]
      simp only [binV, addV, g1, new_get, List.length_map, List.length_singleton, sz2, grd]
      rfl
    rw [evE, es_cons ad es_nil]
    have := asInts_map (1 :: leL e (spl e us))
    simp only [List.map_cons] at this
    simp [R.bind, biV, biO, new_get, biL, this]
  rw [call_eq (env := [some (.tup (us.map uD)), some (.int e), none, none]) gf.«least_every» rfl rfl]
  simp only [d.«least_every», B.«least_every»]
  rw [x_expr (d := .non) (st1 := st) (by simp [evE, evEs, R.bind, e1]), x_if0 (st1 := st) (by simp [evE, evEs, R.bind, e3, gq.«MOST_MOMENT», ofO, h0, h1, truR, truB]), x_ret mx]
  simp only [retR]
  rw [trim_kp (t := [.lst [.int 1], .lst ((spl e us).map prD), .lst ((leL e (spl e us)).map D.int), .lst (.int 1 :: (leL e (spl e us)).map D.int)]) (by rw [← hs2]; simp [Sto.new]) (by simp [clsd])]
/-- what is due next -/
def nxD (us : List (Int × Wd)) (every : Int) : D := match us.getLast? with
  | some u => if u.2 = .c then .non else .int (u.1 + every)
  | none => .non
theorem w_next_due (n : Nat) (us : List (Int × Wd)) (every : Int) (st : Sto) (hv : Val us) (hlen : us.length ≤ 60) (he : 1 ≤ every ∧ every ≤ 99) :
    callN G (n + 7) (.fn F.«next_due») [.tup (us.map uD), .int every] st = .ok (nxD us every) st := by
  have e1 := w_require_updates n us st hv hlen
  have e2 := w_require_every (n + 3) every st he.1 he.2
  rw [call_eq (env := [some (.tup (us.map uD)), some (.int every)]) gf.«next_due» rfl rfl]
  simp only [d.«next_due», B.«next_due»]
  rw [x_expr (d := .non) (st1 := st) (by simp [evE, evEs, R.bind, e1]), x_expr (d := .non) (st1 := st) (by simp [evE, evEs, R.bind, e2])]
  have hok : okD 40 (.tup (us.map uD)) = true := by simp [okD, uD]
  cases hu : us.getLast? with
  | none =>
    have : us = [] := List.getLast?_eq_none_iff.mp hu
    subst this
    rw [x_if1 (st1 := st) (by simp [evE, evEs, R.bind, grd, sizeLine, cmpV, eqV, okD, ofO, eqT, eqTs, truR, truB]), x_ret (d := .non) (st1 := st) (by simp [evE])]
    simp [SR.seq, retR, trim_self, nxD]
  | some u =>
    have hne : eqTs (us.map uD) [] = false := by
      cases us with
      | nil => simp at hu
      | cons => simp [eqTs]
    have hl : evE G (callN G (n + 6)) (.idx (.var 0) (.neg (.int 1))) [some (.tup (us.map uD)), some (.int every)] st = .ok (uD u) st := by
      simp [evE, R.bind, idxV, atI_last, List.getLast?_map, hu, ofO]
    have hq : (wS u.2 = Str.ofString "close") = (u.2 = Wd.c) := by rw [show Str.ofString "close" = wS .c from rfl]; simp [wS_inj]
    have c2 : evE G (callN G (n + 6)) (.or (.cmp .eq (.var 0) (.tup .nil)) (.cmp .eq (.idx (.idx (.var 0) (.neg (.int 1))) (.int 1)) (.glo Q.«CLOSE»))) [some (.tup (us.map uD)), some (.int every)] st = .ok (.bl (decide (u.2 = .c))) st := by
      have a1 : evE G (callN G (n + 6)) (.cmp .eq (.var 0) (.tup .nil)) [some (.tup (us.map uD)), some (.int every)] st = .ok (.bl false) st := by
        have hal : (us.map uD).all (okD 39) = true := by simp [okD, uD]
        have hn : okD 40 (.tup []) = true := by simp [okD]
        simp only [evE, evEs, R.bind, grd, cmpV, eqV]
        simp [ofO, eqT, hne, sizeLine, hok, hn]
      have a2 : evE G (callN G (n + 6)) (.cmp .eq (.idx (.idx (.var 0) (.neg (.int 1))) (.int 1)) (.glo Q.«CLOSE»)) [some (.tup (us.map uD)), some (.int every)] st = .ok (.bl (decide (u.2 = .c))) st := by
        rw [evE, evE, hl]
        simp [evE, R.bind, uD, idxV, at21, ofO, gq.«CLOSE», cmpV, eqV, okD, eqT, hq]
      rw [evE, a1]
      simp only [truR, R.bind, truB, ofO]
      exact a2
    by_cases hc : u.2 = .c
    · rw [x_if1 (st1 := st) (by rw [c2]; simp [hc]), x_ret (d := .non) (st1 := st) (by simp [evE])]
      simp [SR.seq, retR, trim_self, nxD, hu, hc]
    · have r : evE G (callN G (n + 6)) (.bin .add (.idx (.idx (.var 0) (.neg (.int 1))) (.int 0)) (.var 1)) [some (.tup (us.map uD)), some (.int every)] st = .ok (.int (u.1 + every)) st := by
        rw [evE, evE, hl]
        simp [evE, R.bind, uD, idxV, at20, ofO, binV, addV]
      rw [x_if0 (st1 := st) (by rw [c2]; simp [hc]), x_ret r]
      simp [retR, trim_self, nxD, hu, hc]
end Hr

namespace Hr
open PySem
def lastU (us : List (Int × Wd)) (m : Int) : Option (Int × Wd) := (us.filter fun u => decide (u.1 ≤ m)).getLast?
def oD : Option (Int × Wd) → D
  | some u => uD u
  | none => .non
theorem w_last (n : Nat) (us : List (Int × Wd)) (m : Int) (st : Sto) (hlen : us.length ≤ 60) : callN G (n + 1) (.fn F.«_law_last») [.tup (us.map uD), .int m] st = .ok (oD (lastU us m)) st := by
  have cm : cmpL Lk.no [3] (T.nm 3) (evT G (callN G n) (.cons (.cmp .le (.idx (.var 3) (.int 0)) (.var 1)) .nil)) (fun env st => oneL (evE G (callN G n) (.var 3) env st)) [some (.tup (us.map uD)), some (.int m), none, none] (us.map uD) st = .ok ((us.filter fun u => decide (u.1 ≤ m)).map uD) st := by
    refine cmpL_map uD _ uD (fun x => [some (.tup (us.map uD)), some (.int m), none, some (uD x)]) (show Lk.stands .no st from trivial) us fun x _ => ⟨rfl, ?_, fun _ => ?_⟩
    · simp [evT, evE, R.bind, idxV, uD, at20, ofO, cmpV, truR, truB]
      by_cases h : x.1 ≤ m <;> simp [h]
    · simp [evE, oneL, R.bind]
  have hI : evI G (callN G n) (.ex (.var 0)) [some (.tup (us.map uD)), some (.int m), none, none] st = .ok (us.map uD, .no) st := by simp [evI, evE, R.bind, exI, ofO]
  generalize hth : (us.filter fun u => decide (u.1 ≤ m)) = th at cm
  have hl : th.length ≤ 60 := by rw [← hth]; exact Nat.le_trans (List.length_filter_le _ _) hlen
  have sz : decide (th.length ≤ sizeLine) = true := by
    have : sizeLine = 16777216 := rfl
    exact decide_eq_true (by omega)
  have lc : evE G (callN G n) (.lc (.var 3) (.one [3] (.nm 3) (.ex (.var 0)) (.cons (.cmp .le (.idx (.var 3) (.int 0)) (.var 1)) .nil))) [some (.tup (us.map uD)), some (.int m), none, none] st = .ok (.ref st.len) (st.new (.lst (th.map uD))) := by
    rw [evE, evCl, hI]
    simp only [R.bind]
    rw [cm]
    simp only [List.length_map, grd, sz]
  have hok : ∀ l : List (Int × Wd), (l.map uD).all (okD 40) = true := fun l => by simp [okD, uD]
  have g1 : (((st.new (.lst (th.map uD))).new (.lst []))).get st.len = some (.lst (th.map uD)) := by rw [Sto.get_new, if_neg (by rw [Sto.len_new]; omega), new_get]
  have g2 : (((st.new (.lst (th.map uD))).new (.lst []))).get (st.new (.lst (th.map uD))).len = some (.lst []) := new_get _ _
  have cnd : evE G (callN G n) (.cmp .ne (.var 2) (.lst .nil)) [some (.tup (us.map uD)), some (.int m), some (.ref st.len), none] (st.new (.lst (th.map uD))) = .ok (.bl (decide (th ≠ []))) ((st.new (.lst (th.map uD))).new (.lst [])) := by
    have e0 : evE G (callN G n) (.lst .nil) [some (.tup (us.map uD)), some (.int m), some (.ref st.len), none] (st.new (.lst (th.map uD))) = .ok (.ref (st.new (.lst (th.map uD))).len) ((st.new (.lst (th.map uD))).new (.lst [])) := by simp [evE, evEs, R.bind, grd, sizeLine]
    rw [evE, show evE G (callN G n) (.var 2) [some (.tup (us.map uD)), some (.int m), some (.ref st.len), none] (st.new (.lst (th.map uD))) = .ok (.ref st.len) (st.new (.lst (th.map uD))) from by simp [evE]]
    simp only [R.bind]
    rw [e0]
    simp only [cmpV, eqV, g1, g2, hok, ofO]
    cases th <;> simp [eqTs]
  have it : evE G (callN G n) (.ite (.cmp .ne (.var 2) (.lst .nil)) (.idx (.var 2) (.neg (.int 1))) .non) [some (.tup (us.map uD)), some (.int m), some (.ref st.len), none] (st.new (.lst (th.map uD))) = .ok (oD th.getLast?) ((st.new (.lst (th.map uD))).new (.lst [])) := by
    rw [evE, cnd]
    cases ht : th.getLast? with
    | none =>
      have : th = [] := List.getLast?_eq_none_iff.mp ht
      subst this
      simp [truR, R.bind, truB, ofO, evE, oD]
    | some u =>
      have hne : th ≠ [] := by rintro rfl; simp at ht
      rw [show decide (th ≠ []) = true from decide_eq_true hne]
      simp [truR, R.bind, truB, ofO, evE, idxV, g1, atI_last, List.getLast?_map, ht, oD]
  rw [call_eq (env := [some (.tup (us.map uD)), some (.int m), none, none]) gf.«_law_last» rfl rfl]
  simp only [d.«_law_last», B.«_law_last»]
  rw [x_asg (env1 := [some (.tup (us.map uD)), some (.int m), some (.ref st.len), none]) lc rfl, x_ret it]
  simp only [retR]
  have hlast : lastU us m = th.getLast? := by unfold lastU; rw [hth]
  rw [hlast, trim_kp (st' := (st.new (.lst (th.map uD))).new (.lst [])) (t := [.lst (th.map uD), .lst []]) (by simp [Sto.new]) (by cases th.getLast? <;> simp [oD, clsd, uD, clsds])]
/-! ### alike -/
def Alk (n : Nat) (d : D) : Prop := ∀ st, callN G n (.fn F.«_law_alike») [d, d] st = .ok (.bl true) st
theorem alk_int (n : Nat) (i : Int) : Alk (n + 1) (.int i) := fun st => by
  rw [call_eq (env := [some (.int i), some (.int i), none]) gf.«_law_alike» rfl rfl]
  simp only [d.«_law_alike», B.«_law_alike»]
  rw [x_if0 (st1 := st) (by simp [evE, R.bind, isTys, isTy, ofO]), x_if0 (st1 := st) (by simp [evE, R.bind, isTys, isTy, ofO, truR, truB, isNonD]),
    x_ret (d := .bl true) (st1 := st) (by simp [evE, R.bind, isTys, isTy, ofO, truR, truB, cmpV, eqV, okD, eqT])]
  simp only [retR, trim_self]
theorem alk_bl (n : Nat) (i : Bool) : Alk (n + 1) (.bl i) := fun st => by
  rw [call_eq (env := [some (.bl i), some (.bl i), none]) gf.«_law_alike» rfl rfl]
  simp only [d.«_law_alike», B.«_law_alike»]
  rw [x_if0 (st1 := st) (by simp [evE, R.bind, isTys, isTy, ofO]), x_if0 (st1 := st) (by simp [evE, R.bind, isTys, isTy, ofO, truR, truB, isNonD]),
    x_ret (d := .bl true) (st1 := st) (by simp [evE, R.bind, isTys, isTy, ofO, truR, truB, cmpV, eqV, okD, eqT])]
  simp only [retR, trim_self]
theorem alk_non (n : Nat) : Alk (n + 1) .non := fun st => by
  rw [call_eq (env := [some .non, some .non, none]) gf.«_law_alike» rfl rfl]
  simp only [d.«_law_alike», B.«_law_alike»]
  rw [x_if0 (st1 := st) (by simp [evE, R.bind, isTys, isTy, ofO]), x_if1 (st1 := st) (by simp [evE, R.bind, isTys, isTy, ofO, truR, truB, isNonD]),
    x_ret (d := .bl true) (st1 := st) (by simp [evE, R.bind, isTys, isTy, ofO, truR, truB, cmpV, eqV, okD, eqT])]
  simp only [SR.seq, retR, trim_self]
end Hr

namespace Hr
open PySem
theorem alk_sm (k : Nat) (hl : k ≤ 100000) : small62 (k : Int) = true := by unfold small62; simp; omega
theorem alk_hI (n : Nat) (xs : List D) (st : Sto) (j : Int) (hj : (xs.length : Int) = j) (sm : small62 j = true) : evI G (callN G n) (.rng (.cons (.bi .len (.cons (.var 1) .nil)) .nil)) [some (.tup xs), some (.tup xs), none] st = .ok ((Rl 0 j).map D.int, .no) st := by
  have e : evE G (callN G n) (.bi .len (.cons (.var 1) .nil)) [some (.tup xs), some (.tup xs), none] st = .ok (.int j) st := by simp [evE, evEs, R.bind, biV, biO, biT, hj]
  rw [evI, es_cons e es_nil]
  simp only [R.bind, rngV, sm, if_true, ofO, rngI_eq]
theorem alk_cnd (n : Nat) (xs : List D) (st : Sto) (h : ∀ x ∈ xs, Alk n x) (k : Nat) (hk : k < xs.length) : evT G (callN G n) (.cons (.not (.call F.«_law_alike» (.cons (.idx (.var 0) (.var 2)) (.cons (.idx (.var 1) (.var 2)) .nil)))) .nil) [some (.tup xs), some (.tup xs), some (.int (k : Nat))] st = .ok false st := by
  have := h xs[k] (List.getElem_mem hk) st
  simp [evT, evE, evEs, R.bind, idxV, atI_nat, List.getElem?_eq_getElem hk, ofO, this, truR, truB]
theorem alk_lc (n : Nat) (xs : List D) (st : Sto) (h : ∀ x ∈ xs, Alk n x) (j : Int) (hj : (xs.length : Int) = j) (sm : small62 j = true) : evE G (callN G n) (.lc (.var 2) (.one [2] (.nm 2) (.rng (.cons (.bi .len (.cons (.var 1) .nil)) .nil)) (.cons (.not (.call F.«_law_alike» (.cons (.idx (.var 0) (.var 2)) (.cons (.idx (.var 1) (.var 2)) .nil)))) .nil))) [some (.tup xs), some (.tup xs), none] st = .ok (.ref st.len) (st.new (.lst [])) := by
  have cm := cmpL_map (lk := .no) (own := [2]) (t := .nm 2) (cond := evT G (callN G n) (.cons (.not (.call F.«_law_alike» (.cons (.idx (.var 0) (.var 2)) (.cons (.idx (.var 1) (.var 2)) .nil)))) .nil)) (elt := fun env st => oneL (evE G (callN G n) (.var 2) env st)) (env := [some (.tup xs), some (.tup xs), none]) (st := st) D.int (fun _ => false) D.int (fun x => [some (.tup xs), some (.tup xs), some (.int x)]) (show Lk.stands .no st from trivial) (Rl 0 j) (fun x hx => by
    refine ⟨rfl, ?_, fun z => by cases z⟩
    simp only [Rl, List.mem_map, List.mem_range] at hx
    obtain ⟨k, hk, rfl⟩ := hx
    have hk : k < xs.length := by omega
    have hz : (0 : Int) + (k : Int) = ((k : Nat) : Int) := by omega
    rw [hz]
    exact alk_cnd n xs st h k hk)
  have hf : (Rl 0 j).filter (fun _ => false) = [] := List.filter_eq_nil_iff.mpr (by simp)
  rw [hf] at cm
  rw [evE, evCl, alk_hI n xs st j hj sm]
  simp only [R.bind]
  rw [cm]
  simp [grd]
theorem alk_tup (n : Nat) (xs : List D) (h : ∀ x ∈ xs, Alk n x) (j : Int) (hj : (xs.length : Int) = j) (sm : small62 j = true) : Alk (n + 1) (.tup xs) := fun st => by
  have eq : evE G (callN G n) (.cmp .eq (.lc (.var 2) (.one [2] (.nm 2) (.rng (.cons (.bi .len (.cons (.var 1) .nil)) .nil)) (.cons (.not (.call F.«_law_alike» (.cons (.idx (.var 0) (.var 2)) (.cons (.idx (.var 1) (.var 2)) .nil)))) .nil))) (.lst .nil)) [some (.tup xs), some (.tup xs), none] st = .ok (.bl true) ((st.new (.lst [])).new (.lst [])) := by
    have g1 : ((st.new (.lst [])).new (.lst [])).get st.len = some (.lst []) := by rw [Sto.get_new, if_neg (by rw [Sto.len_new]; omega), new_get]
    have g2 : ((st.new (.lst [])).new (.lst [])).get (st.new (.lst [])).len = some (.lst []) := new_get _ _
    rw [evE, alk_lc n xs st h j hj sm]
    simp only [R.bind]
    rw [show evE G (callN G n) (.lst .nil) [some (.tup xs), some (.tup xs), none] (st.new (.lst [])) = .ok (.ref (st.new (.lst [])).len) ((st.new (.lst [])).new (.lst [])) from by simp [evE, evEs, R.bind, grd, sizeLine]]
    simp [cmpV, eqV, g1, g2, ofO, eqTs]
  have ln : evE G (callN G n) (.cmp .ne (.bi .len (.cons (.var 0) .nil)) (.bi .len (.cons (.var 1) .nil))) [some (.tup xs), some (.tup xs), none] st = .ok (.bl false) st := by
    simp only [evE, evEs, R.bind, List.getElem?_cons_zero, List.getElem?_cons_succ, biV, biO, biT, hj]
    simp [cmpV, eqV, okD, eqT, ofO]
  rw [call_eq (env := [some (.tup xs), some (.tup xs), none]) gf.«_law_alike» rfl rfl]
  simp only [d.«_law_alike», B.«_law_alike»]
  rw [x_if1 (st1 := st) (by simp [evE, R.bind, isTys, isTy, ofO])]
  rw [x_if0 (st1 := st) (by simp [evE, R.bind, isTys, isTy, ofO, truR, truB, cmpV, eqV, okD, eqT])]
  rw [x_if0 ln]
  rw [x_ret eq]
  simp only [SR.seq, retR]
  rw [trim_kp (st' := (st.new (.lst [])).new (.lst [])) (t := [.lst [], .lst []]) (by simp [Sto.new]) (by simp [clsd])]
end Hr

namespace Hr
open PySem
theorem Rl_mem {a b m : Int} : m ∈ Rl a b ↔ a ≤ m ∧ m < b := by
  simp only [Rl, List.mem_map, List.mem_range]
  constructor
  · rintro ⟨k, hk, rfl⟩; omega
  · intro h; exact ⟨(m - a).toNat, by omega, by omega⟩
theorem Rl_nil {a b : Int} (h : b ≤ a) : Rl a b = [] := by
  unfold Rl
  rw [show (b - a).toNat = 0 by omega]; rfl
theorem Rl_split {a b c : Int} (h1 : a ≤ b) (h2 : b ≤ c) : Rl a c = Rl a b ++ Rl b c := by
  apply List.ext_getElem
  · simp [Rl]; omega
  · intro i h3 h4
    simp only [Rl, List.getElem_map, List.getElem_range]
    by_cases k : i < (b - a).toNat
    · rw [List.getElem_append_left (by simpa using k)]; simp
    · rw [List.getElem_append_right (by simp; omega)]; simp; omega
theorem foldl_cg {α : Type} {f g : α → Int → α} : ∀ (l : List Int) (s : α), (∀ m ∈ l, ∀ s, f s m = g s m) → l.foldl f s = l.foldl g s
  | [], s, _ => rfl
  | m :: l, s, h => by
    simp only [List.foldl_cons]
    rw [h m List.mem_cons_self, foldl_cg l _ fun x hx => h x (List.mem_cons_of_mem _ hx)]
theorem foldl_id {α : Type} {f : α → Int → α} : ∀ (l : List Int) (s : α), (∀ m ∈ l, ∀ s, f s m = s) → l.foldl f s = s
  | [], s, _ => rfl
  | m :: l, s, h => by
    simp only [List.foldl_cons]
    rw [h m List.mem_cons_self, foldl_id l _ fun x hx => h x (List.mem_cons_of_mem _ hx)]
def lstep {α : Type} (us : List (Int × Wd)) (step : α → Int → Int → α) (s : α) (m : Int) : α := match lastU us m with
  | some u => if u.2 ≠ .c then step s m u.1 else s
  | none => s
def Srt (us : List (Int × Wd)) : Prop := us.Pairwise fun a b => a.1 ≤ b.1
theorem lastU_none {us : List (Int × Wd)} {m : Int} (h : ∀ u ∈ us, m < u.1) : lastU us m = none := by
  unfold lastU
  rw [List.filter_eq_nil_iff.mpr fun u hu => by simp; exact h u hu]; rfl
theorem lastU_cons {u : Int × Wd} {r : List (Int × Wd)} {m : Int} (h : u.1 ≤ m) : lastU (u :: r) m = (lastU r m).or (some u) := by
  unfold lastU
  rw [List.filter_cons, if_pos (by simpa using h), List.getLast?_cons]
  cases (r.filter fun u => decide (u.1 ≤ m)).getLast? <;> rfl
theorem lastU_some {v : Int × Wd} {r : List (Int × Wd)} {m : Int} (h : v.1 ≤ m) : ∃ x, lastU (v :: r) m = some x := by
  rw [lastU_cons h]
  cases lastU r m <;> exact ⟨_, rfl⟩
theorem fold_eq {α : Type} (step : α → Int → Int → α) (e : Int) : ∀ (us : List (Int × Wd)) (a : Int) (s : α), Srt us → (∀ u ∈ us, a ≤ u.1) →
    (Rl a e).foldl (lstep us step) s = (spl e us).foldl (fun s p => (Rl p.1 (mnI p.2 e)).foldl (fun s m => step s m p.1) s) s
  | [], a, s, _, _ => by
    simp only [spl, List.foldl_nil]
    exact foldl_id _ _ fun m _ s => rfl
  | u :: r, a, s, hs, ha => by
    have hr : Srt r := (List.pairwise_cons.mp hs).2
    have hur : ∀ v ∈ r, u.1 ≤ v.1 := (List.pairwise_cons.mp hs).1
    have hau := ha u List.mem_cons_self
    -- ahead of u nothing is open
    have pre : ∀ b, b ≤ u.1 → ∀ s : α, (Rl a b).foldl (lstep (u :: r) step) s = s := fun b hb s => foldl_id _ _ fun m hm s => by
      have := (Rl_mem.mp hm).2
      unfold lstep
      rw [lastU_none fun v hv => ?_]
      rcases List.mem_cons.mp hv with rfl | hv
      · omega
      · have := hur v hv; omega
    -- u's own spell, then the rest
    have own : ∀ (b : Int), (∀ v ∈ r, b ≤ v.1) → ∀ s : α, (Rl u.1 b).foldl (lstep (u :: r) step) s = (if u.2 ≠ .c then (Rl u.1 b).foldl (fun s m => step s m u.1) s else s) := fun b hb s => by
      have q : ∀ m ∈ Rl u.1 b, ∀ s : α, lstep (u :: r) step s m = if u.2 ≠ .c then step s m u.1 else s := fun m hm s => by
        have hm := Rl_mem.mp hm
        unfold lstep
        rw [lastU_cons hm.1, lastU_none fun v hv => Int.lt_of_lt_of_le hm.2 (hb v hv)]
        rfl
      rw [foldl_cg _ _ q]
      by_cases hc : u.2 ≠ .c
      · simp only [if_pos hc]
      · simp only [if_neg hc]; exact foldl_id _ _ fun _ _ _ => rfl
    cases r with
    | nil =>
      by_cases he : e ≤ u.1
      · rw [pre e he]
        simp only [spl, List.append_nil]
        have : mnI (if u.1 > e then u.1 else e) e ≤ u.1 := by unfold mnI; (repeat' split) <;> omega
        by_cases hc : u.2 ≠ .c
        · simp only [if_pos hc, List.foldl_cons, List.foldl_nil]; rw [Rl_nil this]; rfl
        · simp only [if_neg hc, List.foldl_nil]
      · rw [Rl_split hau (by omega), List.foldl_append, pre u.1 (Int.le_refl _), own e (by simp)]
        simp only [spl, List.append_nil]
        have : mnI (if u.1 > e then u.1 else e) e = e := by unfold mnI; rw [if_neg (by omega : ¬ u.1 > e)]; simp
        by_cases hc : u.2 ≠ .c
        · simp only [if_pos hc, List.foldl_cons, List.foldl_nil]; rw [this]
        · simp only [if_neg hc, List.foldl_nil]
    | cons v r' =>
      have huv := hur v List.mem_cons_self
      have hv : ∀ w ∈ v :: r', v.1 ≤ w.1 := fun w hw => by
        rcases List.mem_cons.mp hw with rfl | hw
        · exact Int.le_refl _
        · exact (List.pairwise_cons.mp hr).1 w hw
      have ih := fun s => fold_eq step e (v :: r') v.1 s hr hv
      have late : ∀ s : α, (Rl v.1 e).foldl (lstep (u :: v :: r') step) s = (Rl v.1 e).foldl (lstep (v :: r') step) s := fun s => foldl_cg _ _ fun m hm s => by
        have hm := Rl_mem.mp hm
        obtain ⟨x, hx⟩ := lastU_some (r := r') hm.1
        unfold lstep
        rw [lastU_cons (by omega), hx]; rfl
      have rhs : (spl e (u :: v :: r')).foldl (fun s p => (Rl p.1 (mnI p.2 e)).foldl (fun s m => step s m p.1) s) s = (Rl v.1 e).foldl (lstep (v :: r') step) (if u.2 ≠ .c then (Rl u.1 (mnI v.1 e)).foldl (fun s m => step s m u.1) s else s) := by
        rw [ih]
        rw [show spl e (u :: v :: r') = (if u.2 ≠ .c then [(u.1, v.1)] else []) ++ spl e (v :: r') from rfl, List.foldl_append]
        by_cases hc : u.2 ≠ .c
        · simp only [if_pos hc, List.foldl_cons, List.foldl_nil]
        · simp only [if_neg hc, List.foldl_nil]
      rw [rhs]
      by_cases he : e ≤ u.1
      · rw [pre e he, Rl_nil (by omega : e ≤ v.1)]
        have : mnI v.1 e ≤ u.1 := by unfold mnI; split <;> omega
        rw [Rl_nil this]
        simp
      · rw [Rl_split hau (by omega), List.foldl_append, pre u.1 (Int.le_refl _)]
        have hb : ∀ w ∈ v :: r', mnI v.1 e ≤ w.1 := fun w hw => by have := hv w hw; unfold mnI; split <;> omega
        have sp : Rl u.1 e = Rl u.1 (mnI v.1 e) ++ Rl v.1 e := by
          by_cases k : e < v.1
          · have h0 : mnI v.1 e = e := by unfold mnI; rw [if_pos k]
            rw [Rl_nil (by omega : e ≤ v.1), List.append_nil, h0]
          · have h0 : mnI v.1 e = v.1 := by unfold mnI; rw [if_neg k]
            rw [h0]; exact Rl_split huv (by omega)
        rw [sp, List.foldl_append, own _ hb, late]
theorem Val.srt {us : List (Int × Wd)} (h : Val us) : Srt us := by
  induction h with
  | nil => exact List.Pairwise.nil
  | @snoc us u hv _ _ hl _ ih =>
    refine List.pairwise_append.mpr ⟨ih, List.pairwise_singleton _ _, fun a ha b hb => ?_⟩
    rw [List.mem_singleton.mp hb]
    -- a is at most the last
    have : ∀ l : List (Int × Wd), Srt l → ∀ x ∈ l, ∃ y, l.getLast? = some y ∧ x.1 ≤ y.1 := fun l => by
      induction l with
      | nil => intro _ x hx; cases hx
      | cons c l ihl =>
        intro hs x hx
        obtain ⟨h1, h2⟩ := List.pairwise_cons.mp hs
        cases l with
        | nil => exact ⟨c, rfl, by rw [List.mem_singleton.mp hx]; exact Int.le_refl _⟩
        | cons d l =>
          rcases List.mem_cons.mp hx with rfl | hx
          · obtain ⟨y, hy, _⟩ := ihl h2 d List.mem_cons_self
            exact ⟨y, by rw [List.getLast?_cons_cons]; exact hy, h1 y (List.mem_of_getLast? hy)⟩
          · obtain ⟨y, hy, hle⟩ := ihl h2 x hx
            exact ⟨y, by rw [List.getLast?_cons_cons]; exact hy, hle⟩
    obtain ⟨y, hy, hle⟩ := this us ih a ha
    exact Int.le_trans hle (hl y hy)
/-! ### what the loops keep -/
theorem Rl_snoc {a b : Int} (h : a ≤ b) : Rl a (b + 1) = Rl a b ++ [b] := by
  rw [Rl_split h (by omega : b ≤ b + 1)]
  congr 1
  unfold Rl
  rw [show (b + 1 - b).toNat = 1 by omega]
  simp
theorem Rl_ind {P : Int → Prop} {a : Int} (h0 : P a) (hs : ∀ b, a ≤ b → P b → P (b + 1)) : ∀ b, a ≤ b → P b := fun b hb => by
  obtain ⟨k, rfl⟩ : ∃ k : Nat, b = a + k := ⟨(b - a).toNat, by omega⟩
  clear hb
  induction k with
  | zero => simpa using h0
  | succ k ih => have := hs (a + k) (by omega) ih; rw [show a + ((k + 1 : Nat) : Int) = a + k + 1 by omega]; exact this
def stD (every : Int) (s : List Int) (m t : Int) : List Int := s ++ (if every ≤ m - t then [m] else [])
def stC (s : Int) (m t : Int) : Int := s + 1
def stM (s : Int) (m t : Int) : Int := mxI s (m - t + 1)
theorem filter_ge {a b c : Int} (h : a ≤ c) : (Rl a b).filter (fun m => decide (c ≤ m)) = Rl c b := by
  by_cases k : c ≤ b
  · rw [Rl_split h k, List.filter_append, List.filter_eq_nil_iff.mpr fun m hm => by have := Rl_mem.mp hm; simp; omega, List.filter_eq_self.mpr fun m hm => by have := Rl_mem.mp hm; simp; omega, List.nil_append]
  · rw [Rl_nil (by omega : b ≤ c), List.filter_eq_nil_iff.mpr fun m hm => by have := Rl_mem.mp hm; simp; omega]
theorem filter_lt {a l e : Int} : (Rl a l).filter (fun m => decide (m < e)) = Rl a (mnI l e) := by
  unfold mnI
  by_cases k : e < l
  · rw [if_pos k]
    by_cases k2 : a ≤ e
    · rw [Rl_split k2 (Int.le_of_lt k), List.filter_append, List.filter_eq_self.mpr fun m hm => by have := Rl_mem.mp hm; simp; omega, List.filter_eq_nil_iff.mpr fun m hm => by have := Rl_mem.mp hm; simp; omega, List.append_nil]
    · rw [Rl_nil (by omega : e ≤ a), List.filter_eq_nil_iff.mpr fun m hm => by have := Rl_mem.mp hm; simp; omega]
  · rw [if_neg k]
    exact List.filter_eq_self.mpr fun m hm => by have := Rl_mem.mp hm; simp; omega
theorem foldD (every f : Int) : ∀ (l : List Int) (s : List Int), l.foldl (fun s m => stD every s m f) s = s ++ l.filter fun m => decide (f + every ≤ m)
  | [], s => by simp
  | m :: l, s => by
    rw [List.foldl_cons, foldD, List.filter_cons]
    unfold stD
    by_cases k : every ≤ m - f
    · rw [if_pos k, if_pos (by simp; omega)]; simp
    · rw [if_neg k, if_neg (by simp; omega)]; simp
theorem due_eq {every : Int} (h : 0 ≤ every) (e : Int) : ∀ (ps : List (Int × Int)) (s : List Int), ps.foldl (fun s p => (Rl p.1 (mnI p.2 e)).foldl (fun s m => stD every s m p.1) s) s = s ++ (ovl every ps).filter fun m => decide (m < e)
  | [], s => by simp [ovl]
  | p :: ps, s => by
    rw [List.foldl_cons, due_eq h e ps, foldD]
    rw [show ovl every (p :: ps) = Rl (p.1 + every) p.2 ++ ovl every ps from rfl, List.filter_append, filter_lt, filter_ge (by omega), List.append_assoc]
theorem foldC (f : Int) : ∀ (l : List Int) (s : Int), l.foldl (fun s m => stC s m f) s = s + l.length
  | [], s => by simp
  | m :: l, s => by rw [List.foldl_cons, foldC]; unfold stC; simp; omega
theorem cnt_eq (e : Int) : ∀ (ps : List (Int × Int)) (s : Int), ps.foldl (fun s p => (Rl p.1 (mnI p.2 e)).foldl (fun s m => stC s m p.1) s) s = s + (omL e ps).sum
  | [], s => by simp [omL]
  | p :: ps, s => by
    rw [List.foldl_cons, cnt_eq e ps, foldC, Rl_len]
    simp only [omL, List.map_cons, List.sum_cons]
    have : ((mnI p.2 e - p.1).toNat : Int) = mxI 0 (mnI p.2 e - p.1) := by unfold mxI; split <;> omega
    rw [this]; omega
theorem foldM (f b s : Int) (hs : 1 ≤ s) : (Rl f b).foldl (fun s m => stM s m f) s = mxI s (b - f) ∧ 1 ≤ mxI s (b - f) := by
  refine ⟨?_, by unfold mxI; split <;> omega⟩
  by_cases k : f ≤ b
  · refine Rl_ind (P := fun b => (Rl f b).foldl (fun s m => stM s m f) s = mxI s (b - f)) ?_ (fun b hb ih => ?_) b k
    · rw [Rl_nil (Int.le_refl _)]; simp only [List.foldl_nil]; unfold mxI; rw [if_neg (by omega)]
    · rw [Rl_snoc hb, List.foldl_append, ih]
      simp only [List.foldl_cons, List.foldl_nil, stM]
      unfold mxI
      (repeat' split) <;> omega
  · rw [Rl_nil (by omega)]; simp only [List.foldl_nil]; unfold mxI; rw [if_neg (by omega)]
theorem least_eq (e : Int) : ∀ (ps : List (Int × Int)) (s : Int), 1 ≤ s → ps.foldl (fun s p => (Rl p.1 (mnI p.2 e)).foldl (fun s m => stM s m p.1) s) s = maxI s (leL e ps)
  | [], s, _ => by simp [leL, maxI]
  | p :: ps, s, h => by
    obtain ⟨h1, h2⟩ := foldM p.1 (mnI p.2 e) s h
    rw [List.foldl_cons, h1, least_eq e ps _ h2]
    rfl
end Hr

namespace Hr
open PySem
def opq (us : List (Int × Wd)) (m : Int) : Bool := match lastU us m with
  | some u => decide (u.2 ≠ .c)
  | none => false
theorem wS_c (w : Wd) : (wS w = Str.ofString "close") = (w = Wd.c) := by rw [show Str.ofString "close" = wS .c from rfl]; simp [wS_inj]
theorem law_cnd (n : Nat) (o : Option (Int × Wd)) (st : Sto) (a0 a1 a2 a3 a4 a5 a6 a7 a8 a10 a11 : Option D) :
    evE G (callN G n) (.and (.isnN (.var 9)) (.cmp .ne (.idx (.var 9) (.int 1)) (.str "close"))) [a0, a1, a2, a3, a4, a5, a6, a7, a8, some (oD o), a10, a11] st = .ok (.bl (match o with | some u => decide (u.2 ≠ .c) | none => false)) st := by
  cases o with
  | none => simp [evE, R.bind, oD, isNonD, truR, truB, ofO]
  | some u => simp [evE, R.bind, oD, uD, isNonD, truR, truB, ofO, idxV, at21, cmpV, eqV, okD, eqT, wS_c]
theorem turn1 (n : Nat) {us : List (Int × Wd)} {every m c : Int} {p q : Nat} {o : Ob} {L : List Int} {st : Sto} {s0 s2 e9 e10 e11 : Option D} {e : Int} (hlen : us.length ≤ 60) (hp : st.get p = some o) (hq : st.get q = some (.lst (L.map D.int))) (hpq : p ≠ q) (hL : L.length ≤ 2000) :
    ∃ st' e9', exSs G (callN G (n + 8)) Y.«law_1» [s0, some (.ref p), s2, some (.tup (us.map uD)), some (.int every), some (.int e), some (.ref q), some (.int c), some (.int m), e9, e10, e11] st =
      .nx [s0, some (.ref p), s2, some (.tup (us.map uD)), some (.int every), some (.int e), some (.ref q), some (.int (lstep us stC c m)), some (.int m), e9', e10, e11] st' ∧ st'.get p = some o ∧ st'.get q = some (.lst ((lstep us (stD every) L m).map D.int)) := by
  have el := w_last (n + 7) us m st hlen
  have a1 : evE G (callN G (n + 8)) (.call F.«_law_last» (.cons (.var 3) (.cons (.var 8) .nil))) [s0, some (.ref p), s2, some (.tup (us.map uD)), some (.int every), some (.int e), some (.ref q), some (.int c), some (.int m), e9, e10, e11] st = .ok (oD (lastU us m)) st := by simp [evE, evEs, R.bind, el]
  simp only [Y.«law_1»]
  rw [x_asg (env1 := [s0, some (.ref p), s2, some (.tup (us.map uD)), some (.int every), some (.int e), some (.ref q), some (.int c), some (.int m), some (oD (lastU us m)), e10, e11]) a1 rfl]
  have cn := law_cnd (n + 8) (lastU us m) st s0 (some (.ref p)) s2 (some (.tup (us.map uD))) (some (.int every)) (some (.int e)) (some (.ref q)) (some (.int c)) (some (.int m)) e10 e11
  cases hu : lastU us m with
  | none =>
    rw [hu] at cn
    rw [x_if0 cn, x_nil]
    exact ⟨st, some (oD none), by simp [lstep, hu], hp, by simp [lstep, hu, hq]⟩
  | some u =>
    rw [hu] at cn
    by_cases hc : u.2 = .c
    · rw [x_if0 (st1 := st) (cn.trans (by simp [hc])), x_nil]
      exact ⟨st, some (oD (some u)), by simp [lstep, hu, hc], hp, by simp [lstep, hu, hc, hq]⟩
    · rw [x_if1 (st1 := st) (cn.trans (by simp [hc]))]
      have a2 : evE G (callN G (n + 8)) (.bin .add (.var 7) (.int 1)) [s0, some (.ref p), s2, some (.tup (us.map uD)), some (.int every), some (.int e), some (.ref q), some (.int c), some (.int m), some (oD (some u)), e10, e11] st = .ok (.int (c + 1)) st := by simp [evE, R.bind, binV, addV]
      rw [x_asg (env1 := [s0, some (.ref p), s2, some (.tup (us.map uD)), some (.int every), some (.int e), some (.ref q), some (.int (c + 1)), some (.int m), some (oD (some u)), e10, e11]) a2 rfl]
      have hqlt := Sto.get_lt hq
      have a3 : evE G (callN G (n + 8)) (.ite (.cmp .ge (.bin .sub (.var 8) (.idx (.var 9) (.int 0))) (.var 4)) (.lst (.cons (.var 8) .nil)) (.lst .nil)) [s0, some (.ref p), s2, some (.tup (us.map uD)), some (.int every), some (.int e), some (.ref q), some (.int (c + 1)), some (.int m), some (oD (some u)), e10, e11] st = .ok (.ref st.len) (st.new (.lst ((if every ≤ m - u.1 then [m] else []).map D.int))) := by
        by_cases k : every ≤ m - u.1 <;> simp [evE, evEs, R.bind, binV, oD, uD, idxV, at20, ofO, cmpV, truR, truB, k, grd, sizeLine]
      have g1 : (st.new (.lst ((if every ≤ m - u.1 then [m] else []).map D.int))).get q = some (.lst (L.map D.int)) := by rw [Sto.get_new, if_neg (by omega)]; exact hq
      have sz : decide (L.length + (if every ≤ m - u.1 then [m] else []).length ≤ sizeLine) = true := by
        have : sizeLine = 16777216 := rfl
        apply decide_eq_true
        split <;> simp <;> omega
      have a4 : evE G (callN G (n + 8)) (.bm .extend (.var 6) (.cons (.ite (.cmp .ge (.bin .sub (.var 8) (.idx (.var 9) (.int 0))) (.var 4)) (.lst (.cons (.var 8) .nil)) (.lst .nil)) .nil)) [s0, some (.ref p), s2, some (.tup (us.map uD)), some (.int every), some (.int e), some (.ref q), some (.int (c + 1)), some (.int m), some (oD (some u)), e10, e11] st = .ok .non ((st.new (.lst ((if every ≤ m - u.1 then [m] else []).map D.int))).put q (.lst ((stD every L m u.1).map D.int))) := by
        rw [evE, show evE G (callN G (n + 8)) (.var 6) [s0, some (.ref p), s2, some (.tup (us.map uD)), some (.int every), some (.int e), some (.ref q), some (.int (c + 1)), some (.int m), some (oD (some u)), e10, e11] st = .ok (.ref q) st from by simp [evE]]
        simp only [R.bind]
        rw [es_cons a3 es_nil]
        simp only [bmTy, hq, grd, bmV, g1, new_get, List.length_map, sz]
        rw [← List.map_append]; rfl
      rw [x_expr a4, x_nil]
      simp only [SR.seq]
      rw [x_nil]
      refine ⟨_, some (oD (some u)), by simp [lstep, hu, hc, stC]; rfl, ?_, ?_⟩
      · rw [Sto.get_put, if_neg (fun z => hpq z.1), Sto.get_new, if_neg (by have := Sto.get_lt hp; omega)]; exact hp
      · rw [get_put g1]; simp [lstep, hu, hc]
theorem turn0 (n : Nat) {us : List (Int × Wd)} {m c : Int} {st : Sto} {s0 s1 s2 s4 s5 s6 s7 e9 e11 : Option D} (hlen : us.length ≤ 60) :
    ∃ e9', exSs G (callN G (n + 8)) Y.«law_0» [s0, s1, s2, some (.tup (us.map uD)), s4, s5, s6, s7, some (.int m), e9, some (.int c), e11] st =
      .nx [s0, s1, s2, some (.tup (us.map uD)), s4, s5, s6, s7, some (.int m), e9', some (.int (lstep us stM c m)), e11] st := by
  have el := w_last (n + 7) us m st hlen
  have a1 : evE G (callN G (n + 8)) (.call F.«_law_last» (.cons (.var 3) (.cons (.var 8) .nil))) [s0, s1, s2, some (.tup (us.map uD)), s4, s5, s6, s7, some (.int m), e9, some (.int c), e11] st = .ok (oD (lastU us m)) st := by simp [evE, evEs, R.bind, el]
  simp only [Y.«law_0»]
  rw [x_asg (env1 := [s0, s1, s2, some (.tup (us.map uD)), s4, s5, s6, s7, some (.int m), some (oD (lastU us m)), some (.int c), e11]) a1 rfl]
  have cn := law_cnd (n + 8) (lastU us m) st s0 s1 s2 (some (.tup (us.map uD))) s4 s5 s6 s7 (some (.int m)) (some (.int c)) e11
  cases hu : lastU us m with
  | none =>
    rw [hu] at cn
    rw [x_if0 cn, x_nil]
    exact ⟨some (oD none), by simp [lstep, hu]⟩
  | some u =>
    rw [hu] at cn
    by_cases hc : u.2 = .c
    · rw [x_if0 (st1 := st) (cn.trans (by simp [hc])), x_nil]
      exact ⟨some (oD (some u)), by simp [lstep, hu, hc]⟩
    · rw [x_if1 (st1 := st) (cn.trans (by simp [hc]))]
      have a2 : evE G (callN G (n + 8)) (.bi .max (.cons (.var 10) (.cons (.bin .add (.bin .sub (.var 8) (.idx (.var 9) (.int 0))) (.int 1)) .nil))) [s0, s1, s2, some (.tup (us.map uD)), s4, s5, s6, s7, some (.int m), some (oD (some u)), some (.int c), e11] st = .ok (.int (stM c m u.1)) st := by
        simp [evE, evEs, R.bind, binV, addV, biV, oD, uD, idxV, at20, ofO, stM, mxI]
      rw [x_asg (env1 := [s0, s1, s2, some (.tup (us.map uD)), s4, s5, s6, s7, some (.int m), some (oD (some u)), some (.int (stM c m u.1)), e11]) a2 rfl, x_nil]
      simp only [SR.seq]
      rw [x_nil]
      exact ⟨some (oD (some u)), by simp [lstep, hu, hc]⟩
end Hr

namespace Hr
open PySem
theorem sm_ok {j : Int} (h0 : -5000 ≤ j) (h1 : j ≤ 5000) : small62 j = true := by unfold small62; simp; omega
theorem w_rng1 {C : Calls} {env : Env} {st : Sto} {a : E} {y : Int} (h1 : evE G C a env st = .ok (.int y) st) (sm : small62 y = true) :
    evI G C (.rng (.cons a .nil)) env st = .ok ((Rl 0 y).map D.int, .no) st := by
  rw [evI, es_cons h1 es_nil]
  simp only [R.bind, rngV, sm, if_true, ofO, rngI_eq]
theorem e_list {C : Calls} {env : Env} {st st1 : Sto} {es : Es} {xs : List D} (h : evEs G C es env st = .ok xs st1) (hl : xs.length ≤ 1000) : evE G C (.lst es) env st = .ok (.ref st1.len) (st1.new (.lst xs)) := by
  rw [evE, h]
  have : decide (xs.length ≤ sizeLine) = true := by have : sizeLine = 16777216 := rfl; exact decide_eq_true (by omega)
  simp only [R.bind, grd, this]
theorem e_tup {C : Calls} {env : Env} {st st1 : Sto} {es : Es} {xs : List D} (h : evEs G C es env st = .ok xs st1) (hl : xs.length ≤ 1000) : evE G C (.tup es) env st = .ok (.tup xs) st1 := by
  rw [evE, h]
  have : decide (xs.length ≤ sizeLine) = true := by have : sizeLine = 16777216 := rfl; exact decide_eq_true (by omega)
  simp only [R.bind, grd, this]
theorem e_call {C : Calls} {env : Env} {st st1 st2 : Sto} {f : Nat} {es : Es} {xs : List D} {d : D} (h : evEs G C es env st = .ok xs st1) (h2 : C (.fn f) xs st1 = .ok d st2) : evE G C (.call f es) env st = .ok d st2 := by
  rw [evE, h]; exact h2
theorem e_var {C : Calls} {env : Env} {st : Sto} {i : Nat} {d : D} (h : env[i]? = some (some d)) : evE G C (.var i) env st = .ok d st := by rw [evE, h]
theorem e_int {C : Calls} {env : Env} {st : Sto} {i : Int} : evE G C (.int i) env st = .ok (.int i) st := by rw [evE]
/-- a pick from a list written out -/
theorem e_pick (n : Nat) {env : Env} {st st1 : Sto} {p : Nat} {o : Ob} {es : Es} {xs : List D} (he : env[1]? = some (some (.ref p))) (h : evEs G (callN G (n + 2)) es env st = .ok xs st1) (hp : st1.get p = some o) (r : Rw o) (h1 : 1 ≤ xs.length) (h2 : xs.length ≤ 1000) (hc : clsds (st1.len + 1) xs = true) :
    ∃ x o', evE G (callN G (n + 2)) (.call F.«_law_pick» (.cons (.var 1) (.cons (.lst es) .nil))) env st = .ok x ((st1.new (.lst xs)).put p o') ∧ Rw o' ∧ x ∈ xs ∧ ((st1.new (.lst xs)).put p o').get p = some o' := by
  have hlt := Sto.get_lt hp
  have g1 : (st1.new (.lst xs)).get p = some o := by rw [Sto.get_new, if_neg (by omega)]; exact hp
  obtain ⟨x, o', e, r', m⟩ := w_pick n (q := st1.len) g1 r (by rw [Sto.get_new, if_pos rfl]) (by omega) h1 h2 (by rw [Sto.len_new]; exact hc)
  exact ⟨x, o', e_call (es_cons (e_var he) (es_cons (e_list h h2) es_nil)) e, r', m, get_put g1⟩
theorem loop1 (n : Nat) {us : List (Int × Wd)} {every e : Int} {p q : Nat} {o : Ob} {st : Sto} {s0 s2 e8 e9 e10 e11 : Option D} (hlen : us.length ≤ 60) (hp : st.get p = some o) (hq : st.get q = some (.lst [])) (hpq : p ≠ q) (he : e ≤ 900) :
    ∃ st' e8' e9', forL Lk.no (.nm 8) (exSs G (callN G (n + 8)) Y.«law_1») ((Rl 0 e).map D.int) [s0, some (.ref p), s2, some (.tup (us.map uD)), some (.int every), some (.int e), some (.ref q), some (.int 0), e8, e9, e10, e11] st =
      .nx [s0, some (.ref p), s2, some (.tup (us.map uD)), some (.int every), some (.int e), some (.ref q), some (.int ((Rl 0 e).foldl (lstep us stC) 0)), e8', e9', e10, e11] st' ∧ st'.get p = some o ∧ st'.get q = some (.lst (((Rl 0 e).foldl (lstep us (stD every)) []).map D.int)) := by
  have loop := forL_rule (lk := .no) (t := .nm 8) (body := exSs G (callN G (n + 8)) Y.«law_1») (fun xs env st' => ∃ R L c e8 e9, xs = R.map D.int ∧ env = [s0, some (.ref p), s2, some (.tup (us.map uD)), some (.int every), some (.int e), some (.ref q), some (.int c), e8, e9, e10, e11] ∧ st'.get p = some o ∧ st'.get q = some (.lst (L.map D.int)) ∧ R.foldl (lstep us (stD every)) L = (Rl 0 e).foldl (lstep us (stD every)) [] ∧ R.foldl (lstep us stC) c = (Rl 0 e).foldl (lstep us stC) 0 ∧ L.length + R.length ≤ 1000)
    (fun _ _ _ _ => trivial) (fun x xs env st' h => by
      obtain ⟨R, L, c, e8, e9, hx, rfl, g1, g2, f1, f2, hl⟩ := h
      cases R with
      | nil => cases hx
      | cons m R =>
        cases hx
        obtain ⟨st2, e9', b, k1, k2⟩ := turn1 n (us := us) (every := every) (m := m) (c := c) (s0 := s0) (s2 := s2) (e9 := e9) (e10 := e10) (e11 := e11) (e := e) hlen g1 g2 hpq (by simp at hl; omega)
        refine ⟨_, _, st2, rfl, .inl b, R, lstep us (stD every) L m, lstep us stC c m, some (.int m), e9', rfl, rfl, k1, k2, f1, f2, ?_⟩
        have : (lstep us (stD every) L m).length ≤ L.length + 1 := by
          unfold lstep stD
          cases lastU us m with
          | none => simp
          | some u => simp only; split <;> (try split) <;> simp
        simp at hl; omega)
    ((Rl 0 e).map D.int) _ st ⟨Rl 0 e, [], 0, e8, e9, rfl, rfl, hp, hq, rfl, rfl, by rw [Rl_len]; simp; omega⟩
  obtain ⟨env', st', q3, R, L, c, e8', e9', hx, rfl, g1, g2, f1, f2, _⟩ := loop
  have hR : R = [] := by cases R with | nil => rfl | cons => cases hx
  subst hR
  simp only [List.foldl_nil] at f1 f2
  subst f1; subst f2
  exact ⟨st', e8', e9', q3, g1, g2⟩
theorem loop0 (n : Nat) {us : List (Int × Wd)} {e : Int} {st : Sto} {s0 s1 s2 s4 s5 s6 s7 e8 e9 e11 : Option D} (hlen : us.length ≤ 60) :
    ∃ e8' e9', forL Lk.no (.nm 8) (exSs G (callN G (n + 8)) Y.«law_0») ((Rl 0 e).map D.int) [s0, s1, s2, some (.tup (us.map uD)), s4, s5, s6, s7, e8, e9, some (.int 1), e11] st =
      .nx [s0, s1, s2, some (.tup (us.map uD)), s4, s5, s6, s7, e8', e9', some (.int ((Rl 0 e).foldl (lstep us stM) 1)), e11] st := by
  have loop := forL_rule (lk := .no) (t := .nm 8) (body := exSs G (callN G (n + 8)) Y.«law_0») (fun xs env st' => ∃ R c e8 e9, xs = R.map D.int ∧ env = [s0, s1, s2, some (.tup (us.map uD)), s4, s5, s6, s7, e8, e9, some (.int c), e11] ∧ st' = st ∧ R.foldl (lstep us stM) c = (Rl 0 e).foldl (lstep us stM) 1)
    (fun _ _ _ _ => trivial) (fun x xs env st' h => by
      obtain ⟨R, c, e8, e9, hx, rfl, rfl, f1⟩ := h
      cases R with
      | nil => cases hx
      | cons m R =>
        cases hx
        obtain ⟨e9', b⟩ := turn0 n (us := us) (m := m) (c := c) (st := st') (s0 := s0) (s1 := s1) (s2 := s2) (s4 := s4) (s5 := s5) (s6 := s6) (s7 := s7) (e9 := e9) (e11 := e11) hlen
        exact ⟨_, _, st', rfl, .inl b, R, lstep us stM c m, some (.int m), e9', rfl, rfl, rfl, f1⟩)
    ((Rl 0 e).map D.int) _ st ⟨Rl 0 e, 1, e8, e9, rfl, rfl, rfl, rfl⟩
  obtain ⟨env', st', q3, R, c, e8', e9', hx, rfl, rfl, f1⟩ := loop
  have hR : R = [] := by cases R with | nil => rfl | cons => cases hx
  subst hR
  simp only [List.foldl_nil] at f1
  subst f1
  exact ⟨e8', e9', q3⟩
end Hr

namespace Hr
open PySem
/-- behind the draws: the rest of a turn -/
theorem law_rest (n : Nat) {us : List (Int × Wd)} {every e : Int} {p : Nat} {o : Ob} {st : Sto} {s0 s2 e6 e7 e8 e9 e10 e11 : Option D} (hv : Val us) (hlen : us.length ≤ 60) (hp : st.get p = some o) (h0 : 0 ≤ e) (h1 : e ≤ 200) (he : 1 ≤ every ∧ every ≤ 99) :
    ∃ env' st', exSs G (callN G (n + 8)) (.cons (.asg (.tp [(.nm 6), (.nm 7)]) (.tup (.cons (.lst .nil) (.cons (.int 0) .nil))))
  (.cons (.forr (.nm 8) (.rng (.cons (.var 5) .nil)) Y.«law_1»)
  (.cons (.iff (.not (.call F.«_law_alike» (.cons (.tup (.cons (.call F.«overdue» (.cons (.var 3) (.cons (.var 4) (.cons (.var 5) .nil)))) (.cons (.call F.«are_kept» (.cons (.var 3) (.cons (.var 4) (.cons (.var 5) .nil)))) (.cons (.call F.«open_moments» (.cons (.var 3) (.cons (.var 5) .nil))) .nil)))) (.cons (.tup (.cons (.bi .tuple (.cons (.var 6) .nil)) (.cons (.cmp .eq (.var 6) (.lst .nil)) (.cons (.var 7) .nil)))) .nil)))) (.cons (.ret (.bl false))
  .nil) .nil)
  (.cons (.asg (.nm 10) (.int 1))
  (.cons (.forr (.nm 8) (.rng (.cons (.var 5) .nil)) Y.«law_0»)
  (.cons (.iff (.not (.call F.«_law_alike» (.cons (.call F.«least_every» (.cons (.var 3) (.cons (.var 5) .nil))) (.cons (.var 10) .nil)))) (.cons (.ret (.bl false))
  .nil) .nil)
  (.cons (.asg (.nm 11) (.ite (.and (.cmp .ne (.var 3) (.tup .nil)) (.cmp .ne (.idx (.idx (.var 3) (.neg (.int 1))) (.int 1)) (.str "close"))) (.bin .add (.idx (.idx (.var 3) (.neg (.int 1))) (.int 0)) (.var 4)) .non))
  (.cons (.iff (.not (.call F.«_law_alike» (.cons (.call F.«next_due» (.cons (.var 3) (.cons (.var 4) .nil))) (.cons (.var 11) .nil)))) (.cons (.ret (.bl false))
  .nil) .nil)
  .nil)))))))) [s0, some (.ref p), s2, some (.tup (us.map uD)), some (.int every), some (.int e), e6, e7, e8, e9, e10, e11] st = .nx env' st' ∧ (∃ f3 f4 f5 f6 f7 f8 f9 f10 f11, env' = [s0, some (.ref p), s2, f3, f4, f5, f6, f7, f8, f9, f10, f11]) ∧ st'.get p = some o := by
  have hplt := Sto.get_lt hp
  have sm : small62 e = true := sm_ok (by omega) (by omega)
  -- due, is_open
  have a1 : evE G (callN G (n + 8)) (.tup (.cons (.lst .nil) (.cons (.int 0) .nil))) [s0, some (.ref p), s2, some (.tup (us.map uD)), some (.int every), some (.int e), e6, e7, e8, e9, e10, e11] st = .ok (.tup [.ref st.len, .int 0]) (st.new (.lst [])) := e_tup (es_cons (e_list es_nil (by simp)) (es_cons e_int es_nil)) (by simp)
  rw [x_asg (env1 := [s0, some (.ref p), s2, some (.tup (us.map uD)), some (.int every), some (.int e), some (.ref st.len), some (.int 0), e8, e9, e10, e11]) a1 rfl]
  have gp1 : (st.new (.lst [])).get p = some o := by rw [Sto.get_new, if_neg (by omega)]; exact hp
  obtain ⟨st2, e8', e9', l1, gp2, gq2⟩ := loop1 n (us := us) (every := every) (e := e) (s0 := s0) (s2 := s2) (e8 := e8) (e9 := e9) (e10 := e10) (e11 := e11) hlen gp1 (new_get _ _) (by omega) (by omega)
  rw [x_for (w_rng1 (e_var rfl) sm) l1]
  -- what the loops found
  have fD := fold_eq (stD every) e us 0 [] hv.srt fun u hu => (hv.all u hu).1
  rw [due_eq (by omega) e, List.nil_append] at fD
  have fC := fold_eq stC e us 0 0 hv.srt fun u hu => (hv.all u hu).1
  rw [cnt_eq e] at fC
  have fM := fold_eq stM e us 0 1 hv.srt fun u hu => (hv.all u hu).1
  rw [least_eq e _ _ (by omega)] at fM
  rw [fC] at l1 ⊢
  rw [fD] at gq2
  have w1 : callN G (n + 8) (.fn F.«overdue») [.tup (us.map uD), .int every, .int e] st2 = _ := w_overdue (n + 1) us every e st2 hv hlen h0 (by omega) he
  have w2 : callN G (n + 8) (.fn F.«are_kept») [.tup (us.map uD), .int every, .int e] st2 = _ := w_are_kept n us every e st2 hv hlen h0 (by omega) he
  have w3 : callN G (n + 8) (.fn F.«open_moments») [.tup (us.map uD), .int e] st2 = _ := w_open_moments (n + 1) us e st2 hv hlen h0 (by omega)
  have szL : ((ovl every (spl e us)).filter fun m => decide (m < e)).length ≤ 1000 := by
    rw [← fD]
    have : ∀ (l : List Int) (s : List Int), (l.foldl (lstep us (stD every)) s).length ≤ s.length + l.length := fun l => by
      induction l with
      | nil => intro s; simp
      | cons m l ih =>
        intro s
        rw [List.foldl_cons]
        refine Nat.le_trans (ih _) ?_
        have : (lstep us (stD every) s m).length ≤ s.length + 1 := by
          unfold lstep stD
          cases lastU us m with
          | none => simp
          | some u => simp only; split <;> (try split) <;> simp
        simp; omega
    have := this (Rl 0 e) []
    rw [Rl_len] at this
    simp at this; omega
  generalize ((ovl every (spl e us)).filter fun m => decide (m < e)) = L at w1 w2 gq2 szL
  generalize hc : (0 : Int) + (omL e (spl e us)).sum = cc
  rw [show (omL e (spl e us)).sum = cc by omega] at w3
  have t1 : evE G (callN G (n + 8)) (.tup (.cons (.call F.«overdue» (.cons (.var 3) (.cons (.var 4) (.cons (.var 5) .nil)))) (.cons (.call F.«are_kept» (.cons (.var 3) (.cons (.var 4) (.cons (.var 5) .nil)))) (.cons (.call F.«open_moments» (.cons (.var 3) (.cons (.var 5) .nil))) .nil)))) [s0, some (.ref p), s2, some (.tup (us.map uD)), some (.int every), some (.int e), some (.ref st.len), some (.int cc), e8', e9', e10, e11] st2 = .ok (.tup [.tup (L.map D.int), .bl (decide (L = [])), .int cc]) st2 :=
    e_tup (es_cons (e_call (es_cons (e_var rfl) (es_cons (e_var rfl) (es_cons (e_var rfl) es_nil))) w1) (es_cons (e_call (es_cons (e_var rfl) (es_cons (e_var rfl) (es_cons (e_var rfl) es_nil))) w2) (es_cons (e_call (es_cons (e_var rfl) (es_cons (e_var rfl) es_nil)) w3) es_nil))) (by simp)
  have b1 : evE G (callN G (n + 8)) (.bi .tuple (.cons (.var 6) .nil)) [s0, some (.ref p), s2, some (.tup (us.map uD)), some (.int every), some (.int e), some (.ref st.len), some (.int cc), e8', e9', e10, e11] st2 = .ok (.tup (L.map D.int)) st2 := by
    rw [evE, es_cons (e_var rfl) es_nil]
    simp [R.bind, biV, biO, gq2, biL]
  have b2 : evE G (callN G (n + 8)) (.cmp .eq (.var 6) (.lst .nil)) [s0, some (.ref p), s2, some (.tup (us.map uD)), some (.int every), some (.int e), some (.ref st.len), some (.int cc), e8', e9', e10, e11] st2 = .ok (.bl (decide (L = []))) (st2.new (.lst [])) := by
    have g1 : (st2.new (.lst [])).get st.len = some (.lst (L.map D.int)) := by rw [Sto.get_new, if_neg (by have := Sto.get_lt gq2; omega)]; exact gq2
    have hok : (L.map D.int).all (okD 40) = true := by simp [okD]
    rw [evE, e_var (d := .ref st.len) rfl]
    simp only [R.bind]
    rw [e_list es_nil (by simp)]
    simp only [cmpV, eqV, g1, new_get, hok, ofO]
    cases L <;> simp [eqTs]
  have t2 : evE G (callN G (n + 8)) (.tup (.cons (.bi .tuple (.cons (.var 6) .nil)) (.cons (.cmp .eq (.var 6) (.lst .nil)) (.cons (.var 7) .nil)))) [s0, some (.ref p), s2, some (.tup (us.map uD)), some (.int every), some (.int e), some (.ref st.len), some (.int cc), e8', e9', e10, e11] st2 = .ok (.tup [.tup (L.map D.int), .bl (decide (L = [])), .int cc]) (st2.new (.lst [])) :=
    e_tup (es_cons b1 (es_cons b2 (es_cons (e_var rfl) es_nil))) (by simp)
  have k1 : Alk (n + 7) (.tup (L.map D.int)) := alk_tup (n + 6) _ (fun x hx => by
    obtain ⟨i, _, rfl⟩ := List.mem_map.mp hx
    exact alk_int (n + 5) i) L.length (by simp) (sm_ok (by omega) (by omega))
  have k2 : Alk (n + 8) (.tup [.tup (L.map D.int), .bl (decide (L = [])), .int cc]) := alk_tup (n + 7) _ (fun x hx => by
    simp only [List.mem_cons, List.not_mem_nil, or_false] at hx
    rcases hx with rfl | rfl | rfl
    · exact k1
    · exact alk_bl (n + 6) _
    · exact alk_int (n + 6) _) 3 rfl (sm_ok (by omega) (by omega))
  have c1 : evE G (callN G (n + 8)) (.not (.call F.«_law_alike» (.cons (.tup (.cons (.call F.«overdue» (.cons (.var 3) (.cons (.var 4) (.cons (.var 5) .nil)))) (.cons (.call F.«are_kept» (.cons (.var 3) (.cons (.var 4) (.cons (.var 5) .nil)))) (.cons (.call F.«open_moments» (.cons (.var 3) (.cons (.var 5) .nil))) .nil)))) (.cons (.tup (.cons (.bi .tuple (.cons (.var 6) .nil)) (.cons (.cmp .eq (.var 6) (.lst .nil)) (.cons (.var 7) .nil)))) .nil)))) [s0, some (.ref p), s2, some (.tup (us.map uD)), some (.int every), some (.int e), some (.ref st.len), some (.int cc), e8', e9', e10, e11] st2 = .ok (.bl false) (st2.new (.lst [])) := by
    rw [evE, e_call (es_cons t1 (es_cons t2 es_nil)) (k2 _)]
    simp [truR, R.bind, truB, ofO]
  rw [x_if0 c1]
  generalize hs3 : st2.new (.lst []) = st3
  have gp3 : st3.get p = some o := by rw [← hs3, Sto.get_new, if_neg (by have := Sto.get_lt gp2; omega)]; exact gp2
  rw [x_asg (env1 := [s0, some (.ref p), s2, some (.tup (us.map uD)), some (.int every), some (.int e), some (.ref st.len), some (.int cc), e8', e9', some (.int 1), e11]) (e_int (i := 1)) rfl]
  obtain ⟨e8'', e9'', l0⟩ := loop0 n (us := us) (e := e) (st := st3) (s0 := s0) (s1 := some (.ref p)) (s2 := s2) (s4 := some (.int every)) (s5 := some (.int e)) (s6 := some (.ref st.len)) (s7 := some (.int cc)) (e8 := e8') (e9 := e9') (e11 := e11) hlen
  rw [x_for (w_rng1 (e_var rfl) sm) l0, fM]
  have w4 : callN G (n + 8) (.fn F.«least_every») [.tup (us.map uD), .int e] st3 = _ := w_least_every (n + 1) us e st3 hv hlen h0 (by omega)
  have c2 : evE G (callN G (n + 8)) (.not (.call F.«_law_alike» (.cons (.call F.«least_every» (.cons (.var 3) (.cons (.var 5) .nil))) (.cons (.var 10) .nil)))) [s0, some (.ref p), s2, some (.tup (us.map uD)), some (.int every), some (.int e), some (.ref st.len), some (.int cc), e8'', e9'', some (.int (maxI 1 (leL e (spl e us)))), e11] st3 = .ok (.bl false) st3 := by
    rw [evE, e_call (es_cons (e_call (es_cons (e_var rfl) (es_cons (e_var rfl) es_nil)) w4) (es_cons (e_var rfl) es_nil)) (alk_int (n + 7) _ st3)]
    simp [truR, R.bind, truB, ofO]
  rw [x_if0 c2]
  -- what is due next
  have w5 : callN G (n + 8) (.fn F.«next_due») [.tup (us.map uD), .int every] st3 = _ := w_next_due (n + 1) us every st3 hv hlen he
  have nx : evE G (callN G (n + 8)) (.ite (.and (.cmp .ne (.var 3) (.tup .nil)) (.cmp .ne (.idx (.idx (.var 3) (.neg (.int 1))) (.int 1)) (.str "close"))) (.bin .add (.idx (.idx (.var 3) (.neg (.int 1))) (.int 0)) (.var 4)) .non) [s0, some (.ref p), s2, some (.tup (us.map uD)), some (.int every), some (.int e), some (.ref st.len), some (.int cc), e8'', e9'', some (.int (maxI 1 (leL e (spl e us)))), e11] st3 = .ok (nxD us every) st3 := by
    have hok : okD 40 (.tup (us.map uD)) = true := by simp [okD, uD]
    have hn : okD 40 (.tup []) = true := by simp [okD]
    cases hu : us.getLast? with
    | none =>
      have : us = [] := List.getLast?_eq_none_iff.mp hu
      subst this
      simp [evE, evEs, R.bind, grd, sizeLine, cmpV, eqV, okD, eqT, eqTs, ofO, truR, truB, nxD]
    | some u =>
      have hne : eqTs (us.map uD) [] = false := by
        cases us with
        | nil => simp at hu
        | cons => simp [eqTs]
      have hl : evE G (callN G (n + 8)) (.idx (.var 3) (.neg (.int 1))) [s0, some (.ref p), s2, some (.tup (us.map uD)), some (.int every), some (.int e), some (.ref st.len), some (.int cc), e8'', e9'', some (.int (maxI 1 (leL e (spl e us)))), e11] st3 = .ok (uD u) st3 := by
        simp [evE, R.bind, idxV, atI_last, List.getLast?_map, hu, ofO]
      have d1 : evE G (callN G (n + 8)) (.cmp .ne (.var 3) (.tup .nil)) [s0, some (.ref p), s2, some (.tup (us.map uD)), some (.int every), some (.int e), some (.ref st.len), some (.int cc), e8'', e9'', some (.int (maxI 1 (leL e (spl e us)))), e11] st3 = .ok (.bl true) st3 := by
        rw [evE, e_var (d := .tup (us.map uD)) rfl]
        simp only [R.bind]
        rw [e_tup es_nil (by simp)]
        simp [cmpV, eqV, hok, hn, eqT, hne, ofO]
      have d2 : evE G (callN G (n + 8)) (.cmp .ne (.idx (.idx (.var 3) (.neg (.int 1))) (.int 1)) (.str "close")) [s0, some (.ref p), s2, some (.tup (us.map uD)), some (.int every), some (.int e), some (.ref st.len), some (.int cc), e8'', e9'', some (.int (maxI 1 (leL e (spl e us)))), e11] st3 = .ok (.bl (decide (u.2 ≠ .c))) st3 := by
        rw [evE, evE, hl]
        simp [evE, R.bind, uD, idxV, at21, ofO, cmpV, eqV, okD, eqT, wS_c]
      have d3 : evE G (callN G (n + 8)) (.bin .add (.idx (.idx (.var 3) (.neg (.int 1))) (.int 0)) (.var 4)) [s0, some (.ref p), s2, some (.tup (us.map uD)), some (.int every), some (.int e), some (.ref st.len), some (.int cc), e8'', e9'', some (.int (maxI 1 (leL e (spl e us)))), e11] st3 = .ok (.int (u.1 + every)) st3 := by
        rw [evE, evE, hl]
        simp [evE, R.bind, uD, idxV, at20, ofO, binV, addV]
      rw [evE, evE, d1]
      simp only [truR, R.bind, truB, ofO]
      rw [d2]
      by_cases hc : u.2 = .c
      · simp [hc, evE, nxD, hu]
      · simp only [truB, ofO, show decide (u.2 ≠ Wd.c) = true from decide_eq_true hc]
        rw [d3]
        simp [nxD, hu, hc]
  rw [x_asg (env1 := [s0, some (.ref p), s2, some (.tup (us.map uD)), some (.int every), some (.int e), some (.ref st.len), some (.int cc), e8'', e9'', some (.int (maxI 1 (leL e (spl e us)))), some (nxD us every)]) nx rfl]
  have ka : Alk (n + 8) (nxD us every) := by
    unfold nxD
    cases us.getLast? with
    | none => exact alk_non (n + 7)
    | some u => dsimp only; split; exact alk_non (n + 7); exact alk_int (n + 7) _
  have c3 : evE G (callN G (n + 8)) (.not (.call F.«_law_alike» (.cons (.call F.«next_due» (.cons (.var 3) (.cons (.var 4) .nil))) (.cons (.var 11) .nil)))) [s0, some (.ref p), s2, some (.tup (us.map uD)), some (.int every), some (.int e), some (.ref st.len), some (.int cc), e8'', e9'', some (.int (maxI 1 (leL e (spl e us)))), some (nxD us every)] st3 = .ok (.bl false) st3 := by
    rw [evE, e_call (es_cons (e_call (es_cons (e_var rfl) (es_cons (e_var rfl) es_nil)) w5) (es_cons (e_var rfl) es_nil)) (ka st3)]
    simp [truR, R.bind, truB, ofO]
  rw [x_if0 c3, x_nil]
  exact ⟨_, _, rfl, ⟨_, _, _, _, _, _, _, _, _, rfl⟩, gp3⟩
end Hr

namespace Hr
open PySem
theorem law_turn (n : Nat) {p : Nat} {o : Ob} {st : Sto} {s0 s2 e3 e4 e5 e6 e7 e8 e9 e10 e11 : Option D} (hp : st.get p = some o) (r : Rw o) :
    ∃ env' st' o', exSs G (callN G (n + 8)) Y.«law_2» [s0, some (.ref p), s2, e3, e4, e5, e6, e7, e8, e9, e10, e11] st = .nx env' st' ∧ (∃ f3 f4 f5 f6 f7 f8 f9 f10 f11, env' = [s0, some (.ref p), s2, f3, f4, f5, f6, f7, f8, f9, f10, f11]) ∧ st'.get p = some o' ∧ Rw o' := by
  -- updates
  obtain ⟨x1, o1, q1, r1, m1, g1⟩ := e_pick (n + 6) (env := [s0, some (.ref p), s2, e3, e4, e5, e6, e7, e8, e9, e10, e11]) (st := st) (es := .cons (.int 4) (.cons (.int 15) (.cons (.int 60) .nil))) (xs := [.int 4, .int 15, .int 60]) rfl (es_cons e_int (es_cons e_int (es_cons e_int es_nil))) hp r (by simp) (by simp) (by simp [clsds, clsd])
  obtain ⟨most, rfl, mo0, mo1⟩ : ∃ z : Int, x1 = .int z ∧ 0 ≤ z ∧ z ≤ 60 := by
    simp at m1
    rcases m1 with rfl | rfl | rfl
    · exact ⟨4, rfl, by omega, by omega⟩
    · exact ⟨15, rfl, by omega, by omega⟩
    · exact ⟨60, rfl, by omega, by omega⟩
  generalize (st.new (.lst [.int 4, .int 15, .int 60])).put p o1 = st1 at q1 g1
  obtain ⟨us, o2, q2, r2, hv, hlen⟩ := w_updates (n + 5) g1 r1 mo0 mo1
  have g2 : (st1.put p o2).get p = some o2 := get_put g1
  generalize st1.put p o2 = st2 at q2 g2
  have c1 : evE G (callN G (n + 8)) (.call F.«_law_updates» (.cons (.var 1) (.cons (.call F.«_law_pick» (.cons (.var 1) (.cons (.lst (.cons (.int 4) (.cons (.int 15) (.cons (.int 60) .nil)))) .nil))) .nil))) [s0, some (.ref p), s2, e3, e4, e5, e6, e7, e8, e9, e10, e11] st = .ok (.tup (us.map uD)) st2 := e_call (es_cons (e_var rfl) (es_cons q1 es_nil)) q2
  obtain ⟨x3, o3, q3, r3, m3, g3⟩ := e_pick (n + 6) (env := [s0, some (.ref p), s2, e3, e4, e5, e6, e7, e8, e9, e10, e11]) (st := st2) (es := .cons (.int 1) (.cons (.int 2) (.cons (.int 5) (.cons (.int 99) .nil)))) (xs := [.int 1, .int 2, .int 5, .int 99]) rfl (es_cons e_int (es_cons e_int (es_cons e_int (es_cons e_int es_nil)))) g2 r2 (by simp) (by simp) (by simp [clsds, clsd])
  obtain ⟨every, rfl, ev⟩ : ∃ z : Int, x3 = .int z ∧ 1 ≤ z ∧ z ≤ 99 := by
    simp at m3
    rcases m3 with rfl | rfl | rfl | rfl
    · exact ⟨1, rfl, by omega, by omega⟩
    · exact ⟨2, rfl, by omega, by omega⟩
    · exact ⟨5, rfl, by omega, by omega⟩
    · exact ⟨99, rfl, by omega, by omega⟩
  generalize (st2.new (.lst [.int 1, .int 2, .int 5, .int 99])).put p o3 = st3 at q3 g3
  have c2 := e_tup (es_cons c1 (es_cons q3 es_nil)) (by simp)
  -- end
  obtain ⟨v, o4, q4, r4, v0, v1⟩ := w_take (n + 7) g3 r3 (m := 60) (by omega) (by omega)
  have g4 : (st3.put p o4).get p = some o4 := get_put g3
  generalize st3.put p o4 = st4 at q4 g4
  have c3 : evE G (callN G (n + 8)) (.call F.«_law_taken» (.cons (.var 1) (.cons (.int 60) .nil))) [s0, some (.ref p), s2, some (.tup (us.map uD)), some (.int every), e5, e6, e7, e8, e9, e10, e11] st3 = .ok (.int v) st4 := e_call (es_cons (e_var rfl) (es_cons e_int es_nil)) q4
  obtain ⟨x5, o5, q5, r5, m5, g5⟩ := e_pick (n + 6) (env := [s0, some (.ref p), s2, some (.tup (us.map uD)), some (.int every), e5, e6, e7, e8, e9, e10, e11]) (st := st3) (es := .cons (.call F.«_law_taken» (.cons (.var 1) (.cons (.int 60) .nil))) (.cons (.int 200) (.cons (.int 0) .nil))) (xs := [.int v, .int 200, .int 0]) rfl (es_cons c3 (es_cons e_int (es_cons e_int es_nil))) g4 r4 (by simp) (by simp) (by simp [clsds, clsd])
  obtain ⟨e, rfl, e0, e1⟩ : ∃ z : Int, x5 = .int z ∧ 0 ≤ z ∧ z ≤ 200 := by
    simp at m5
    rcases m5 with rfl | rfl | rfl
    · exact ⟨v, rfl, by omega, by omega⟩
    · exact ⟨200, rfl, by omega, by omega⟩
    · exact ⟨0, rfl, by omega, by omega⟩
  generalize (st4.new (.lst [.int v, .int 200, .int 0])).put p o5 = st5 at q5 g5
  obtain ⟨env', st', h1, h2, h3⟩ := law_rest n (us := us) (every := every) (e := e) (p := p) (o := o5) (st := st5) (s0 := s0) (s2 := s2) (e6 := e6) (e7 := e7) (e8 := e8) (e9 := e9) (e10 := e10) (e11 := e11) hv hlen g5 e0 e1 ev
  refine ⟨env', st', o5, ?_, h2, h3, r5⟩
  simp only [Y.«law_2»]
  rw [x_asg (env1 := [s0, some (.ref p), s2, some (.tup (us.map uD)), some (.int every), e5, e6, e7, e8, e9, e10, e11]) c2 rfl, x_asg (env1 := [s0, some (.ref p), s2, some (.tup (us.map uD)), some (.int every), some (.int e), e6, e7, e8, e9, e10, e11]) q5 rfl]
  exact h1
theorem law_spec (n : Nat) (ns : List Int) : ∃ st', callN G (n + 9) (.fn F.«law») [.fl (ns.map D.int)] ⟨[]⟩ = .ok (.bl true) st' := by
  have a1 : evE G (callN G (n + 8)) (.lst (.cons (.var 0) (.cons (.int 0) (.cons (.int 9641) (.cons (.int 0) .nil))))) [some (.fl (ns.map D.int)), none, none, none, none, none, none, none, none, none, none, none] ⟨[]⟩ = .ok (.ref 0) ⟨[rowO ns 0 9641 0]⟩ := e_list (es_cons (e_var rfl) (es_cons e_int (es_cons e_int (es_cons e_int es_nil)))) (by simp)
  have loop := forL_rule (lk := .no) (t := .nm 2) (body := exSs G (callN G (n + 8)) Y.«law_2») (fun xs env st' => ∃ o f2 f3 f4 f5 f6 f7 f8 f9 f10 f11, env = [some (.fl (ns.map D.int)), some (.ref 0), f2, f3, f4, f5, f6, f7, f8, f9, f10, f11] ∧ st'.get 0 = some o ∧ Rw o)
    (fun _ _ _ _ => trivial) (fun x xs env st' h => by
      obtain ⟨o, f2, f3, f4, f5, f6, f7, f8, f9, f10, f11, rfl, g, r⟩ := h
      obtain ⟨env', st2, o', b, ⟨k3, k4, k5, k6, k7, k8, k9, k10, k11, rfl⟩, g', r'⟩ := law_turn n (p := 0) (s0 := some (.fl (ns.map D.int))) (s2 := some x) (e3 := f3) (e4 := f4) (e5 := f5) (e6 := f6) (e7 := f7) (e8 := f8) (e9 := f9) (e10 := f10) (e11 := f11) g r
      exact ⟨_, _, st2, rfl, .inl b, o', some x, k3, k4, k5, k6, k7, k8, k9, k10, k11, rfl, g', r'⟩)
    ((Rl 0 4).map D.int) [some (.fl (ns.map D.int)), some (.ref 0), none, none, none, none, none, none, none, none, none, none] ⟨[rowO ns 0 9641 0]⟩
    ⟨rowO ns 0 9641 0, none, none, none, none, none, none, none, none, none, none, rfl, rfl, ns, 0, 9641, 0, rfl, by omega⟩
  obtain ⟨env', st', q3, _⟩ := loop
  refine ⟨trim ⟨[]⟩ (.bl true) st', ?_⟩
  rw [call_eq (env := [some (.fl (ns.map D.int)), none, none, none, none, none, none, none, none, none, none, none]) gf.«law» rfl rfl]
  simp only [d.«law», B.«law»]
  rw [x_asg (env1 := [some (.fl (ns.map D.int)), some (.ref 0), none, none, none, none, none, none, none, none, none, none]) a1 rfl, x_for (w_rng1 (e_int (i := 4)) (sm_ok (by omega) (by omega))) q3, x_ret (d := .bl true) (st1 := st') (by simp [evE])]
  simp only [retR]
end Hr

open Hr
namespace LawEnd
open PySem PySem.Spec PyProof.Rows L2 Hr
def top (i : Nat) : Stmt := PySem.Challenge.pw_heardroom_k64_whole_updates.main.body.getD i (.Pass ⟨0, 0, 0, 0⟩)
def Nm : Names := ⟨["len", "int", "str", "tuple", "list", "sum", "max", "min", "isinstance", "range", "enumerate", "bool"], [("MOST_ROWS", Q.«MOST_ROWS»), ("MOST_MOMENT", Q.«MOST_MOMENT»), ("MOST_EVERY", Q.«MOST_EVERY»), ("OPEN", Q.«OPEN»), ("SAY", Q.«SAY»), ("CLOSE", Q.«CLOSE»)], [("is_whole", F.«is_whole»), ("is_within", F.«is_within»), ("is_row", F.«is_row»), ("first_wrong", F.«first_wrong»), ("place_told", F.«place_told»), ("has_form", F.«has_form»), ("is_update", F.«is_update»), ("require_updates", F.«require_updates»), ("require_every", F.«require_every»), ("spells", F.«spells»), ("overdue_of", F.«overdue_of»), ("overdue", F.«overdue»), ("are_kept", F.«are_kept»), ("least_every", F.«least_every»), ("next_due", F.«next_due»), ("open_moments", F.«open_moments»), ("_law_taken", F.«_law_taken»), ("_law_pick", F.«_law_pick»), ("_law_alike", F.«_law_alike»), ("_law_updates", F.«_law_updates»), ("_law_last", F.«_law_last»), ("law", F.«law»)]⟩
def dd0 : He.DefD := ⟨("is_whole", none), "is_whole", "is_whole", defArgs (top 1), defBody (top 1), defScope (top 1), [], []⟩
theorem sc0 : FnScope ["value"] ["value"] (defScope (top 1)) := ⟨rfl, rfl, rfl, by decide +kernel, rfl, by decide +kernel, by decide +kernel⟩
theorem ck0 : chkSs Nm d.«is_whole».body ⟨["value"], defScope (top 1), fun _ => true⟩ (defBody (top 1)) = true := by decide +kernel
theorem rw0 {T : Tb} {K : PySem.W.Frag} {fd : FuncData} (FD : FunD K "is_whole" "is_whole" (defArgs (top 1)) (defBody (top 1)) (defScope (top 1)) [] [] (T.fnA F.«is_whole») fd) : Hr.Row T K Nm F.«is_whole» d.«is_whole» "is_whole" fd ["value"] :=
  ⟨⟨_, _, _, _, ["value"], FD, sc0, ck0, rfl⟩, rfl, FD.bindsN fun _ _ _ _ _ _ us hl => match us, hl with | [_], _ => rfl⟩
def dd1 : He.DefD := ⟨("is_within", none), "is_within", "is_within", defArgs (top 2), defBody (top 2), defScope (top 2), [], []⟩
theorem sc1 : FnScope ["value", "least", "most"] ["value", "least", "most"] (defScope (top 2)) := ⟨rfl, rfl, rfl, by decide +kernel, rfl, by decide +kernel, by decide +kernel⟩
theorem ck1 : chkSs Nm d.«is_within».body ⟨["value", "least", "most"], defScope (top 2), fun _ => true⟩ (defBody (top 2)) = true := by decide +kernel
theorem rw1 {T : Tb} {K : PySem.W.Frag} {fd : FuncData} (FD : FunD K "is_within" "is_within" (defArgs (top 2)) (defBody (top 2)) (defScope (top 2)) [] [] (T.fnA F.«is_within») fd) : Hr.Row T K Nm F.«is_within» d.«is_within» "is_within" fd ["value", "least", "most"] :=
  ⟨⟨_, _, _, _, ["value", "least", "most"], FD, sc1, ck1, rfl⟩, rfl, FD.bindsN fun _ _ _ _ _ _ us hl => match us, hl with | [_, _, _], _ => rfl⟩
def dd2 : He.DefD := ⟨("is_row", none), "is_row", "is_row", defArgs (top 3), defBody (top 3), defScope (top 3), [], []⟩
theorem sc2 : FnScope ["value", "size"] ["value", "size"] (defScope (top 3)) := ⟨rfl, rfl, rfl, by decide +kernel, rfl, by decide +kernel, by decide +kernel⟩
theorem ck2 : chkSs Nm d.«is_row».body ⟨["value", "size"], defScope (top 3), fun _ => true⟩ (defBody (top 3)) = true := by decide +kernel
theorem rw2 {T : Tb} {K : PySem.W.Frag} {fd : FuncData} (FD : FunD K "is_row" "is_row" (defArgs (top 3)) (defBody (top 3)) (defScope (top 3)) [] [] (T.fnA F.«is_row») fd) : Hr.Row T K Nm F.«is_row» d.«is_row» "is_row" fd ["value", "size"] :=
  ⟨⟨_, _, _, _, ["value", "size"], FD, sc2, ck2, rfl⟩, rfl, FD.bindsN fun _ _ _ _ _ _ us hl => match us, hl with | [_, _], _ => rfl⟩
def dd3 : He.DefD := ⟨("first_wrong", none), "first_wrong", "first_wrong", defArgs (top 4), defBody (top 4), defScope (top 4), [], []⟩
theorem sc3 : FnScope ["value", "least", "most", "judge", "place", "row"] ["value", "least", "most", "judge"] (defScope (top 4)) := ⟨rfl, rfl, rfl, by decide +kernel, rfl, by decide +kernel, by decide +kernel⟩
theorem ck3 : chkSs Nm d.«first_wrong».body ⟨["value", "least", "most", "judge", "place", "row"], defScope (top 4), fun _ => true⟩ (defBody (top 4)) = true := by decide +kernel
theorem rw3 {T : Tb} {K : PySem.W.Frag} {fd : FuncData} (FD : FunD K "first_wrong" "first_wrong" (defArgs (top 4)) (defBody (top 4)) (defScope (top 4)) [] [] (T.fnA F.«first_wrong») fd) : Hr.Row T K Nm F.«first_wrong» d.«first_wrong» "first_wrong" fd ["value", "least", "most", "judge"] :=
  ⟨⟨_, _, _, _, ["value", "least", "most", "judge", "place", "row"], FD, sc3, ck3, rfl⟩, rfl, FD.bindsN fun _ _ _ _ _ _ us hl => match us, hl with | [_, _, _, _], _ => rfl⟩
def dd4 : He.DefD := ⟨("place_told", none), "place_told", "place_told", defArgs (top 5), defBody (top 5), defScope (top 5), [], []⟩
theorem sc4 : FnScope ["place"] ["place"] (defScope (top 5)) := ⟨rfl, rfl, rfl, by decide +kernel, rfl, by decide +kernel, by decide +kernel⟩
theorem ck4 : chkSs Nm d.«place_told».body ⟨["place"], defScope (top 5), fun _ => true⟩ (defBody (top 5)) = true := by decide +kernel
theorem rw4 {T : Tb} {K : PySem.W.Frag} {fd : FuncData} (FD : FunD K "place_told" "place_told" (defArgs (top 5)) (defBody (top 5)) (defScope (top 5)) [] [] (T.fnA F.«place_told») fd) : Hr.Row T K Nm F.«place_told» d.«place_told» "place_told" fd ["place"] :=
  ⟨⟨_, _, _, _, ["place"], FD, sc4, ck4, rfl⟩, rfl, FD.bindsN fun _ _ _ _ _ _ us hl => match us, hl with | [_], _ => rfl⟩
def dd5 : He.DefD := ⟨("has_form", none), "has_form", "has_form", defArgs (top 17), defBody (top 17), defScope (top 17), [], []⟩
theorem sc5 : FnScope ["row"] ["row"] (defScope (top 17)) := ⟨rfl, rfl, rfl, by decide +kernel, rfl, by decide +kernel, by decide +kernel⟩
theorem ck5 : chkSs Nm d.«has_form».body ⟨["row"], defScope (top 17), fun _ => true⟩ (defBody (top 17)) = true := by decide +kernel
theorem rw5 {T : Tb} {K : PySem.W.Frag} {fd : FuncData} (FD : FunD K "has_form" "has_form" (defArgs (top 17)) (defBody (top 17)) (defScope (top 17)) [] [] (T.fnA F.«has_form») fd) : Hr.Row T K Nm F.«has_form» d.«has_form» "has_form" fd ["row"] :=
  ⟨⟨_, _, _, _, ["row"], FD, sc5, ck5, rfl⟩, rfl, FD.bindsN fun _ _ _ _ _ _ us hl => match us, hl with | [_], _ => rfl⟩
def dd6 : He.DefD := ⟨("is_update", none), "is_update", "is_update", defArgs (top 18), defBody (top 18), defScope (top 18), [], []⟩
theorem sc6 : FnScope ["row", "ahead", "is_open", "one"] ["row", "ahead"] (defScope (top 18)) := ⟨rfl, rfl, rfl, by decide +kernel, rfl, by decide +kernel, by decide +kernel⟩
theorem ck6 : chkSs Nm d.«is_update».body ⟨["row", "ahead", "is_open", "one"], defScope (top 18), fun _ => true⟩ (defBody (top 18)) = true := by decide +kernel
theorem rw6 {T : Tb} {K : PySem.W.Frag} {fd : FuncData} (FD : FunD K "is_update" "is_update" (defArgs (top 18)) (defBody (top 18)) (defScope (top 18)) [] [] (T.fnA F.«is_update») fd) : Hr.Row T K Nm F.«is_update» d.«is_update» "is_update" fd ["row", "ahead"] :=
  ⟨⟨_, _, _, _, ["row", "ahead", "is_open", "one"], FD, sc6, ck6, rfl⟩, rfl, FD.bindsN fun _ _ _ _ _ _ us hl => match us, hl with | [_, _], _ => rfl⟩
def dd7 : He.DefD := ⟨("require_updates", none), "require_updates", "require_updates", defArgs (top 19), defBody (top 19), defScope (top 19), [], []⟩
theorem sc7 : FnScope ["updates", "place"] ["updates"] (defScope (top 19)) := ⟨rfl, rfl, rfl, by decide +kernel, rfl, by decide +kernel, by decide +kernel⟩
theorem ck7 : chkSs Nm d.«require_updates».body ⟨["updates", "place"], defScope (top 19), fun _ => true⟩ (defBody (top 19)) = true := by decide +kernel
theorem rw7 {T : Tb} {K : PySem.W.Frag} {fd : FuncData} (FD : FunD K "require_updates" "require_updates" (defArgs (top 19)) (defBody (top 19)) (defScope (top 19)) [] [] (T.fnA F.«require_updates») fd) : Hr.Row T K Nm F.«require_updates» d.«require_updates» "require_updates" fd ["updates"] :=
  ⟨⟨_, _, _, _, ["updates", "place"], FD, sc7, ck7, rfl⟩, rfl, FD.bindsN fun _ _ _ _ _ _ us hl => match us, hl with | [_], _ => rfl⟩
def dd8 : He.DefD := ⟨("require_every", none), "require_every", "require_every", defArgs (top 20), defBody (top 20), defScope (top 20), [], []⟩
theorem sc8 : FnScope ["every"] ["every"] (defScope (top 20)) := ⟨rfl, rfl, rfl, by decide +kernel, rfl, by decide +kernel, by decide +kernel⟩
theorem ck8 : chkSs Nm d.«require_every».body ⟨["every"], defScope (top 20), fun _ => true⟩ (defBody (top 20)) = true := by decide +kernel
theorem rw8 {T : Tb} {K : PySem.W.Frag} {fd : FuncData} (FD : FunD K "require_every" "require_every" (defArgs (top 20)) (defBody (top 20)) (defScope (top 20)) [] [] (T.fnA F.«require_every») fd) : Hr.Row T K Nm F.«require_every» d.«require_every» "require_every" fd ["every"] :=
  ⟨⟨_, _, _, _, ["every"], FD, sc8, ck8, rfl⟩, rfl, FD.bindsN fun _ _ _ _ _ _ us hl => match us, hl with | [_], _ => rfl⟩
def dd9 : He.DefD := ⟨("spells", none), "spells", "spells", defArgs (top 21), defBody (top 21), defScope (top 21), [], []⟩
theorem sc9 : FnScope ["updates", "end", "found", "place", "moment", "word"] ["updates", "end"] (defScope (top 21)) := ⟨rfl, rfl, rfl, by decide +kernel, rfl, by decide +kernel, by decide +kernel⟩
theorem ck9 : chkSs Nm d.«spells».body ⟨["updates", "end", "found", "place", "moment", "word"], defScope (top 21), fun _ => true⟩ (defBody (top 21)) = true := by decide +kernel
theorem rw9 {T : Tb} {K : PySem.W.Frag} {fd : FuncData} (FD : FunD K "spells" "spells" (defArgs (top 21)) (defBody (top 21)) (defScope (top 21)) [] [] (T.fnA F.«spells») fd) : Hr.Row T K Nm F.«spells» d.«spells» "spells" fd ["updates", "end"] :=
  ⟨⟨_, _, _, _, ["updates", "end", "found", "place", "moment", "word"], FD, sc9, ck9, rfl⟩, rfl, FD.bindsN fun _ _ _ _ _ _ us hl => match us, hl with | [_, _], _ => rfl⟩
def dd10 : He.DefD := ⟨("overdue_of", none), "overdue_of", "overdue_of", defArgs (top 22), defBody (top 22), defScope (top 22), [], []⟩
theorem sc10 : FnScope ["updates", "every", "end", "found", "first", "last", "moment"] ["updates", "every", "end"] (defScope (top 22)) := ⟨rfl, rfl, rfl, by decide +kernel, rfl, by decide +kernel, by decide +kernel⟩
theorem ck10 : chkSs Nm d.«overdue_of».body ⟨["updates", "every", "end", "found", "first", "last", "moment"], defScope (top 22), fun _ => true⟩ (defBody (top 22)) = true := by decide +kernel
theorem rw10 {T : Tb} {K : PySem.W.Frag} {fd : FuncData} (FD : FunD K "overdue_of" "overdue_of" (defArgs (top 22)) (defBody (top 22)) (defScope (top 22)) [] [] (T.fnA F.«overdue_of») fd) : Hr.Row T K Nm F.«overdue_of» d.«overdue_of» "overdue_of" fd ["updates", "every", "end"] :=
  ⟨⟨_, _, _, _, ["updates", "every", "end", "found", "first", "last", "moment"], FD, sc10, ck10, rfl⟩, rfl, FD.bindsN fun _ _ _ _ _ _ us hl => match us, hl with | [_, _, _], _ => rfl⟩
def dd11 : He.DefD := ⟨("overdue", none), "overdue", "overdue", defArgs (top 23), defBody (top 23), defScope (top 23), [], []⟩
theorem sc11 : FnScope ["updates", "every", "end", "moment"] ["updates", "every", "end"] (defScope (top 23)) := ⟨rfl, rfl, rfl, by decide +kernel, rfl, by decide +kernel, by decide +kernel⟩
theorem ck11 : chkSs Nm d.«overdue».body ⟨["updates", "every", "end", "moment"], defScope (top 23), fun _ => true⟩ (defBody (top 23)) = true := by decide +kernel
theorem rw11 {T : Tb} {K : PySem.W.Frag} {fd : FuncData} (FD : FunD K "overdue" "overdue" (defArgs (top 23)) (defBody (top 23)) (defScope (top 23)) [] [] (T.fnA F.«overdue») fd) : Hr.Row T K Nm F.«overdue» d.«overdue» "overdue" fd ["updates", "every", "end"] :=
  ⟨⟨_, _, _, _, ["updates", "every", "end", "moment"], FD, sc11, ck11, rfl⟩, rfl, FD.bindsN fun _ _ _ _ _ _ us hl => match us, hl with | [_, _, _], _ => rfl⟩
def dd12 : He.DefD := ⟨("are_kept", none), "are_kept", "are_kept", defArgs (top 24), defBody (top 24), defScope (top 24), [], []⟩
theorem sc12 : FnScope ["updates", "every", "end"] ["updates", "every", "end"] (defScope (top 24)) := ⟨rfl, rfl, rfl, by decide +kernel, rfl, by decide +kernel, by decide +kernel⟩
theorem ck12 : chkSs Nm d.«are_kept».body ⟨["updates", "every", "end"], defScope (top 24), fun _ => true⟩ (defBody (top 24)) = true := by decide +kernel
theorem rw12 {T : Tb} {K : PySem.W.Frag} {fd : FuncData} (FD : FunD K "are_kept" "are_kept" (defArgs (top 24)) (defBody (top 24)) (defScope (top 24)) [] [] (T.fnA F.«are_kept») fd) : Hr.Row T K Nm F.«are_kept» d.«are_kept» "are_kept" fd ["updates", "every", "end"] :=
  ⟨⟨_, _, _, _, ["updates", "every", "end"], FD, sc12, ck12, rfl⟩, rfl, FD.bindsN fun _ _ _ _ _ _ us hl => match us, hl with | [_, _, _], _ => rfl⟩
def dd13 : He.DefD := ⟨("least_every", none), "least_every", "least_every", defArgs (top 25), defBody (top 25), defScope (top 25), [], []⟩
theorem sc13 : FnScope ["updates", "end", "first", "last"] ["updates", "end"] (defScope (top 25)) := ⟨rfl, rfl, rfl, by decide +kernel, rfl, by decide +kernel, by decide +kernel⟩
theorem ck13 : chkSs Nm d.«least_every».body ⟨["updates", "end", "first", "last"], defScope (top 25), fun _ => true⟩ (defBody (top 25)) = true := by decide +kernel
theorem rw13 {T : Tb} {K : PySem.W.Frag} {fd : FuncData} (FD : FunD K "least_every" "least_every" (defArgs (top 25)) (defBody (top 25)) (defScope (top 25)) [] [] (T.fnA F.«least_every») fd) : Hr.Row T K Nm F.«least_every» d.«least_every» "least_every" fd ["updates", "end"] :=
  ⟨⟨_, _, _, _, ["updates", "end", "first", "last"], FD, sc13, ck13, rfl⟩, rfl, FD.bindsN fun _ _ _ _ _ _ us hl => match us, hl with | [_, _], _ => rfl⟩
def dd14 : He.DefD := ⟨("next_due", none), "next_due", "next_due", defArgs (top 26), defBody (top 26), defScope (top 26), [], []⟩
theorem sc14 : FnScope ["updates", "every"] ["updates", "every"] (defScope (top 26)) := ⟨rfl, rfl, rfl, by decide +kernel, rfl, by decide +kernel, by decide +kernel⟩
theorem ck14 : chkSs Nm d.«next_due».body ⟨["updates", "every"], defScope (top 26), fun _ => true⟩ (defBody (top 26)) = true := by decide +kernel
theorem rw14 {T : Tb} {K : PySem.W.Frag} {fd : FuncData} (FD : FunD K "next_due" "next_due" (defArgs (top 26)) (defBody (top 26)) (defScope (top 26)) [] [] (T.fnA F.«next_due») fd) : Hr.Row T K Nm F.«next_due» d.«next_due» "next_due" fd ["updates", "every"] :=
  ⟨⟨_, _, _, _, ["updates", "every"], FD, sc14, ck14, rfl⟩, rfl, FD.bindsN fun _ _ _ _ _ _ us hl => match us, hl with | [_, _], _ => rfl⟩
def dd15 : He.DefD := ⟨("open_moments", none), "open_moments", "open_moments", defArgs (top 27), defBody (top 27), defScope (top 27), [], []⟩
theorem sc15 : FnScope ["updates", "end", "first", "last"] ["updates", "end"] (defScope (top 27)) := ⟨rfl, rfl, rfl, by decide +kernel, rfl, by decide +kernel, by decide +kernel⟩
theorem ck15 : chkSs Nm d.«open_moments».body ⟨["updates", "end", "first", "last"], defScope (top 27), fun _ => true⟩ (defBody (top 27)) = true := by decide +kernel
theorem rw15 {T : Tb} {K : PySem.W.Frag} {fd : FuncData} (FD : FunD K "open_moments" "open_moments" (defArgs (top 27)) (defBody (top 27)) (defScope (top 27)) [] [] (T.fnA F.«open_moments») fd) : Hr.Row T K Nm F.«open_moments» d.«open_moments» "open_moments" fd ["updates", "end"] :=
  ⟨⟨_, _, _, _, ["updates", "end", "first", "last"], FD, sc15, ck15, rfl⟩, rfl, FD.bindsN fun _ _ _ _ _ _ us hl => match us, hl with | [_, _], _ => rfl⟩
def dd16 : He.DefD := ⟨("_law_taken", none), "_law_taken", "_law_taken", defArgs (top 29), defBody (top 29), defScope (top 29), [], []⟩
theorem sc16 : FnScope ["row", "many", "found", "cell"] ["row", "many"] (defScope (top 29)) := ⟨rfl, rfl, rfl, by decide +kernel, rfl, by decide +kernel, by decide +kernel⟩
theorem ck16 : chkSs Nm d.«_law_taken».body ⟨["row", "many", "found", "cell"], defScope (top 29), fun _ => true⟩ (defBody (top 29)) = true := by decide +kernel
theorem rw16 {T : Tb} {K : PySem.W.Frag} {fd : FuncData} (FD : FunD K "_law_taken" "_law_taken" (defArgs (top 29)) (defBody (top 29)) (defScope (top 29)) [] [] (T.fnA F.«_law_taken») fd) : Hr.Row T K Nm F.«_law_taken» d.«_law_taken» "_law_taken" fd ["row", "many"] :=
  ⟨⟨_, _, _, _, ["row", "many", "found", "cell"], FD, sc16, ck16, rfl⟩, rfl, FD.bindsN fun _ _ _ _ _ _ us hl => match us, hl with | [_, _], _ => rfl⟩
def dd17 : He.DefD := ⟨("_law_pick", none), "_law_pick", "_law_pick", defArgs (top 30), defBody (top 30), defScope (top 30), [], []⟩
theorem sc17 : FnScope ["row", "things"] ["row", "things"] (defScope (top 30)) := ⟨rfl, rfl, rfl, by decide +kernel, rfl, by decide +kernel, by decide +kernel⟩
theorem ck17 : chkSs Nm d.«_law_pick».body ⟨["row", "things"], defScope (top 30), fun _ => true⟩ (defBody (top 30)) = true := by decide +kernel
theorem rw17 {T : Tb} {K : PySem.W.Frag} {fd : FuncData} (FD : FunD K "_law_pick" "_law_pick" (defArgs (top 30)) (defBody (top 30)) (defScope (top 30)) [] [] (T.fnA F.«_law_pick») fd) : Hr.Row T K Nm F.«_law_pick» d.«_law_pick» "_law_pick" fd ["row", "things"] :=
  ⟨⟨_, _, _, _, ["row", "things"], FD, sc17, ck17, rfl⟩, rfl, FD.bindsN fun _ _ _ _ _ _ us hl => match us, hl with | [_, _], _ => rfl⟩
def dd18 : He.DefD := ⟨("_law_alike", none), "_law_alike", "_law_alike", defArgs (top 31), defBody (top 31), defScope (top 31), [], []⟩
theorem sc18 : FnScope ["found", "due", "k"] ["found", "due"] (defScope (top 31)) := ⟨rfl, rfl, rfl, by decide +kernel, rfl, by decide +kernel, by decide +kernel⟩
theorem ck18 : chkSs Nm d.«_law_alike».body ⟨["found", "due", "k"], defScope (top 31), fun _ => true⟩ (defBody (top 31)) = true := by decide +kernel
theorem rw18 {T : Tb} {K : PySem.W.Frag} {fd : FuncData} (FD : FunD K "_law_alike" "_law_alike" (defArgs (top 31)) (defBody (top 31)) (defScope (top 31)) [] [] (T.fnA F.«_law_alike») fd) : Hr.Row T K Nm F.«_law_alike» d.«_law_alike» "_law_alike" fd ["found", "due"] :=
  ⟨⟨_, _, _, _, ["found", "due", "k"], FD, sc18, ck18, rfl⟩, rfl, FD.bindsN fun _ _ _ _ _ _ us hl => match us, hl with | [_, _], _ => rfl⟩
def dd19 : He.DefD := ⟨("_law_updates", none), "_law_updates", "_law_updates", defArgs (top 32), defBody (top 32), defScope (top 32), [], []⟩
theorem sc19 : FnScope ["row", "most", "now", "is_open", "found", "k", "word"] ["row", "most"] (defScope (top 32)) := ⟨rfl, rfl, rfl, by decide +kernel, rfl, by decide +kernel, by decide +kernel⟩
theorem ck19 : chkSs Nm d.«_law_updates».body ⟨["row", "most", "now", "is_open", "found", "k", "word"], defScope (top 32), fun _ => true⟩ (defBody (top 32)) = true := by decide +kernel
theorem rw19 {T : Tb} {K : PySem.W.Frag} {fd : FuncData} (FD : FunD K "_law_updates" "_law_updates" (defArgs (top 32)) (defBody (top 32)) (defScope (top 32)) [] [] (T.fnA F.«_law_updates») fd) : Hr.Row T K Nm F.«_law_updates» d.«_law_updates» "_law_updates" fd ["row", "most"] :=
  ⟨⟨_, _, _, _, ["row", "most", "now", "is_open", "found", "k", "word"], FD, sc19, ck19, rfl⟩, rfl, FD.bindsN fun _ _ _ _ _ _ us hl => match us, hl with | [_, _], _ => rfl⟩
def dd20 : He.DefD := ⟨("_law_last", none), "_law_last", "_law_last", defArgs (top 33), defBody (top 33), defScope (top 33), [], []⟩
theorem sc20 : FnScope ["updates", "moment", "there", "one"] ["updates", "moment"] (defScope (top 33)) := ⟨rfl, rfl, rfl, by decide +kernel, rfl, by decide +kernel, by decide +kernel⟩
theorem ck20 : chkSs Nm d.«_law_last».body ⟨["updates", "moment", "there", "one"], defScope (top 33), fun _ => true⟩ (defBody (top 33)) = true := by decide +kernel
theorem rw20 {T : Tb} {K : PySem.W.Frag} {fd : FuncData} (FD : FunD K "_law_last" "_law_last" (defArgs (top 33)) (defBody (top 33)) (defScope (top 33)) [] [] (T.fnA F.«_law_last») fd) : Hr.Row T K Nm F.«_law_last» d.«_law_last» "_law_last" fd ["updates", "moment"] :=
  ⟨⟨_, _, _, _, ["updates", "moment", "there", "one"], FD, sc20, ck20, rfl⟩, rfl, FD.bindsN fun _ _ _ _ _ _ us hl => match us, hl with | [_, _], _ => rfl⟩
def dd21 : He.DefD := ⟨("law", none), "law", "law", defArgs (top 34), defBody (top 34), defScope (top 34), [], []⟩
theorem sc21 : FnScope ["script", "row", "turn", "updates", "every", "end", "due", "is_open", "moment", "last", "least", "coming"] ["script"] (defScope (top 34)) := ⟨rfl, rfl, rfl, by decide +kernel, rfl, by decide +kernel, by decide +kernel⟩
theorem ck21 : chkSs Nm d.«law».body ⟨["script", "row", "turn", "updates", "every", "end", "due", "is_open", "moment", "last", "least", "coming"], defScope (top 34), fun _ => true⟩ (defBody (top 34)) = true := by decide +kernel
theorem rw21 {T : Tb} {K : PySem.W.Frag} {fd : FuncData} (FD : FunD K "law" "law" (defArgs (top 34)) (defBody (top 34)) (defScope (top 34)) [] [] (T.fnA F.«law») fd) : Hr.Row T K Nm F.«law» d.«law» "law" fd ["script"] :=
  ⟨⟨_, _, _, _, ["script", "row", "turn", "updates", "every", "end", "due", "is_open", "moment", "last", "least", "coming"], FD, sc21, ck21, rfl⟩, rfl, FD.bindsN fun _ _ _ _ _ _ us hl => match us, hl with | [_], _ => rfl⟩
def fn : List He.DefD := [dd0, dd1, dd2, dd3, dd4, dd5, dd6, dd7, dd8, dd9, dd10, dd11, dd12, dd13, dd14, dd15, dd16, dd17, dd18, dd19, dd20, dd21]
def fa : List He.Fa := [.glo "is_whole", .glo "is_within", .glo "is_row", .glo "first_wrong", .glo "place_told", .glo "has_form", .glo "is_update", .glo "require_updates", .glo "require_every", .glo "spells", .glo "overdue_of", .glo "overdue", .glo "are_kept", .glo "least_every", .glo "next_due", .glo "open_moments", .glo "_law_taken", .glo "_law_pick", .glo "_law_alike", .glo "_law_updates", .glo "_law_last", .glo "law", .free "len", .free "int", .free "str", .free "tuple", .free "list", .free "sum", .free "max", .free "min", .free "isinstance", .free "range", .free "enumerate", .free "bool", .int "MOST_ROWS" 60, .int "MOST_MOMENT" 999, .int "MOST_EVERY" 99, .str "OPEN" "open", .str "SAY" "say", .str "CLOSE" "close"]
abbrev R : PySem.W.OpenRow := PySem.W.OpenLaw.row PySem.Challenge.rw_heardroom_k64_whole_updates
abbrev hk : PySem.W.Hook := He.hookD 4 fa fn
def ob (s : PySem.W.SharedT) : He.AlD := He.obsDG 4 fa fn (HandSHeadRun.getT s)
theorem ob_eq (s : PySem.W.SharedT) : ob s = hk.obs s.abs := He.obsDG_eq (HandSHeadRun.getT_eq s)
theorem run (w : World) : HandSHeadRun.RunEq R (PySem.W.view R.prog [34]) hk ob 2000 ["is_whole", "is_within", "is_row", "first_wrong", "place_told", "RoomError", "BadNumber", "BadUpdates", "MOST_ROWS", "MOST_MOMENT", "MOST_EVERY", "OPEN", "SAY", "CLOSE", "has_form", "is_update", "require_updates", "require_every", "spells", "overdue_of", "overdue", "are_kept", "least_every", "next_due", "open_moments", "_law_taken", "_law_pick", "_law_alike", "_law_updates", "_law_last"] w := by
  intro os
  kernel_rfl
def nmOf (f : Nat) : Str := ((["is_whole", "is_within", "is_row", "first_wrong", "place_told", "has_form", "is_update", "require_updates", "require_every", "spells", "overdue_of", "overdue", "are_kept", "least_every", "next_due", "open_moments", "_law_taken", "_law_pick", "_law_alike", "_law_updates", "_law_last", "law"] : List Str)[f]?).getD (Str.ofString "")
def Tt (K : PySem.W.Frag) : Tb := ⟨fun f => He.fAd K (nmOf f, none), fun _ => 0⟩
theorem lookup_all {P : Str → Nat → Prop} : ∀ (l : List (Str × Nat)), (∀ p ∈ l, P p.1 p.2) → ∀ x f, l.lookup x = some f → P x f := fun l h x f e => h (x, f) (PySem.mem_of_lookup e)
theorem glo {K : PySem.W.Frag} {h : Heap} {mg : Str → Option Value} (X : K.In h) (G0 : h.Ns mainGlobals mg) (c : He.SaysD fa fn K) : Glo (Tt K) G Nm K mg where
  blt := by
    intro x hx
    rcases List.mem_cons.mp hx with rfl | hx
    · exact He.free_ok X G0 (c.fact 22 (f := .free "len") rfl)
    rcases List.mem_cons.mp hx with rfl | hx
    · exact He.free_ok X G0 (c.fact 23 (f := .free "int") rfl)
    rcases List.mem_cons.mp hx with rfl | hx
    · exact He.free_ok X G0 (c.fact 24 (f := .free "str") rfl)
    rcases List.mem_cons.mp hx with rfl | hx
    · exact He.free_ok X G0 (c.fact 25 (f := .free "tuple") rfl)
    rcases List.mem_cons.mp hx with rfl | hx
    · exact He.free_ok X G0 (c.fact 26 (f := .free "list") rfl)
    rcases List.mem_cons.mp hx with rfl | hx
    · exact He.free_ok X G0 (c.fact 27 (f := .free "sum") rfl)
    rcases List.mem_cons.mp hx with rfl | hx
    · exact He.free_ok X G0 (c.fact 28 (f := .free "max") rfl)
    rcases List.mem_cons.mp hx with rfl | hx
    · exact He.free_ok X G0 (c.fact 29 (f := .free "min") rfl)
    rcases List.mem_cons.mp hx with rfl | hx
    · exact He.free_ok X G0 (c.fact 30 (f := .free "isinstance") rfl)
    rcases List.mem_cons.mp hx with rfl | hx
    · exact He.free_ok X G0 (c.fact 31 (f := .free "range") rfl)
    rcases List.mem_cons.mp hx with rfl | hx
    · exact He.free_ok X G0 (c.fact 32 (f := .free "enumerate") rfl)
    rcases List.mem_cons.mp hx with rfl | hx
    · exact He.free_ok X G0 (c.fact 33 (f := .free "bool") rfl)
    cases hx
  con := by
    refine lookup_all _ fun p hp => ?_
    rcases List.mem_cons.mp hp with rfl | hp
    · obtain ⟨t, e⟩ := He.int_ok X G0 (c.fact 34 (f := .int "MOST_ROWS" 60) rfl)
      exact ⟨_, .int 60, .int 60, e, ⟨t, rfl⟩, rfl, fun _ _ => .int _⟩
    rcases List.mem_cons.mp hp with rfl | hp
    · obtain ⟨t, e⟩ := He.int_ok X G0 (c.fact 35 (f := .int "MOST_MOMENT" 999) rfl)
      exact ⟨_, .int 999, .int 999, e, ⟨t, rfl⟩, rfl, fun _ _ => .int _⟩
    rcases List.mem_cons.mp hp with rfl | hp
    · obtain ⟨t, e⟩ := He.int_ok X G0 (c.fact 36 (f := .int "MOST_EVERY" 99) rfl)
      exact ⟨_, .int 99, .int 99, e, ⟨t, rfl⟩, rfl, fun _ _ => .int _⟩
    rcases List.mem_cons.mp hp with rfl | hp
    · obtain ⟨t, e⟩ := He.str_ok X G0 (c.fact 37 (f := .str "OPEN" "open") rfl)
      exact ⟨_, .str "open", .str "open", e, ⟨t, rfl⟩, rfl, fun _ _ => .str _⟩
    rcases List.mem_cons.mp hp with rfl | hp
    · obtain ⟨t, e⟩ := He.str_ok X G0 (c.fact 38 (f := .str "SAY" "say") rfl)
      exact ⟨_, .str "say", .str "say", e, ⟨t, rfl⟩, rfl, fun _ _ => .str _⟩
    rcases List.mem_cons.mp hp with rfl | hp
    · obtain ⟨t, e⟩ := He.str_ok X G0 (c.fact 39 (f := .str "CLOSE" "close") rfl)
      exact ⟨_, .str "close", .str "close", e, ⟨t, rfl⟩, rfl, fun _ _ => .str _⟩
    cases hp
  fnv := by
    refine lookup_all _ fun p hp => ?_
    rcases List.mem_cons.mp hp with rfl | hp
    · obtain ⟨fd, FD⟩ := c.def_ 0 (d := dd0) rfl
      exact ⟨He.glo_ok X G0 (c.fact 0 (f := .glo "is_whole") rfl), _, fd, _, gf.«is_whole», rw0 FD⟩
    rcases List.mem_cons.mp hp with rfl | hp
    · obtain ⟨fd, FD⟩ := c.def_ 1 (d := dd1) rfl
      exact ⟨He.glo_ok X G0 (c.fact 1 (f := .glo "is_within") rfl), _, fd, _, gf.«is_within», rw1 FD⟩
    rcases List.mem_cons.mp hp with rfl | hp
    · obtain ⟨fd, FD⟩ := c.def_ 2 (d := dd2) rfl
      exact ⟨He.glo_ok X G0 (c.fact 2 (f := .glo "is_row") rfl), _, fd, _, gf.«is_row», rw2 FD⟩
    rcases List.mem_cons.mp hp with rfl | hp
    · obtain ⟨fd, FD⟩ := c.def_ 3 (d := dd3) rfl
      exact ⟨He.glo_ok X G0 (c.fact 3 (f := .glo "first_wrong") rfl), _, fd, _, gf.«first_wrong», rw3 FD⟩
    rcases List.mem_cons.mp hp with rfl | hp
    · obtain ⟨fd, FD⟩ := c.def_ 4 (d := dd4) rfl
      exact ⟨He.glo_ok X G0 (c.fact 4 (f := .glo "place_told") rfl), _, fd, _, gf.«place_told», rw4 FD⟩
    rcases List.mem_cons.mp hp with rfl | hp
    · obtain ⟨fd, FD⟩ := c.def_ 5 (d := dd5) rfl
      exact ⟨He.glo_ok X G0 (c.fact 5 (f := .glo "has_form") rfl), _, fd, _, gf.«has_form», rw5 FD⟩
    rcases List.mem_cons.mp hp with rfl | hp
    · obtain ⟨fd, FD⟩ := c.def_ 6 (d := dd6) rfl
      exact ⟨He.glo_ok X G0 (c.fact 6 (f := .glo "is_update") rfl), _, fd, _, gf.«is_update», rw6 FD⟩
    rcases List.mem_cons.mp hp with rfl | hp
    · obtain ⟨fd, FD⟩ := c.def_ 7 (d := dd7) rfl
      exact ⟨He.glo_ok X G0 (c.fact 7 (f := .glo "require_updates") rfl), _, fd, _, gf.«require_updates», rw7 FD⟩
    rcases List.mem_cons.mp hp with rfl | hp
    · obtain ⟨fd, FD⟩ := c.def_ 8 (d := dd8) rfl
      exact ⟨He.glo_ok X G0 (c.fact 8 (f := .glo "require_every") rfl), _, fd, _, gf.«require_every», rw8 FD⟩
    rcases List.mem_cons.mp hp with rfl | hp
    · obtain ⟨fd, FD⟩ := c.def_ 9 (d := dd9) rfl
      exact ⟨He.glo_ok X G0 (c.fact 9 (f := .glo "spells") rfl), _, fd, _, gf.«spells», rw9 FD⟩
    rcases List.mem_cons.mp hp with rfl | hp
    · obtain ⟨fd, FD⟩ := c.def_ 10 (d := dd10) rfl
      exact ⟨He.glo_ok X G0 (c.fact 10 (f := .glo "overdue_of") rfl), _, fd, _, gf.«overdue_of», rw10 FD⟩
    rcases List.mem_cons.mp hp with rfl | hp
    · obtain ⟨fd, FD⟩ := c.def_ 11 (d := dd11) rfl
      exact ⟨He.glo_ok X G0 (c.fact 11 (f := .glo "overdue") rfl), _, fd, _, gf.«overdue», rw11 FD⟩
    rcases List.mem_cons.mp hp with rfl | hp
    · obtain ⟨fd, FD⟩ := c.def_ 12 (d := dd12) rfl
      exact ⟨He.glo_ok X G0 (c.fact 12 (f := .glo "are_kept") rfl), _, fd, _, gf.«are_kept», rw12 FD⟩
    rcases List.mem_cons.mp hp with rfl | hp
    · obtain ⟨fd, FD⟩ := c.def_ 13 (d := dd13) rfl
      exact ⟨He.glo_ok X G0 (c.fact 13 (f := .glo "least_every") rfl), _, fd, _, gf.«least_every», rw13 FD⟩
    rcases List.mem_cons.mp hp with rfl | hp
    · obtain ⟨fd, FD⟩ := c.def_ 14 (d := dd14) rfl
      exact ⟨He.glo_ok X G0 (c.fact 14 (f := .glo "next_due") rfl), _, fd, _, gf.«next_due», rw14 FD⟩
    rcases List.mem_cons.mp hp with rfl | hp
    · obtain ⟨fd, FD⟩ := c.def_ 15 (d := dd15) rfl
      exact ⟨He.glo_ok X G0 (c.fact 15 (f := .glo "open_moments") rfl), _, fd, _, gf.«open_moments», rw15 FD⟩
    rcases List.mem_cons.mp hp with rfl | hp
    · obtain ⟨fd, FD⟩ := c.def_ 16 (d := dd16) rfl
      exact ⟨He.glo_ok X G0 (c.fact 16 (f := .glo "_law_taken") rfl), _, fd, _, gf.«_law_taken», rw16 FD⟩
    rcases List.mem_cons.mp hp with rfl | hp
    · obtain ⟨fd, FD⟩ := c.def_ 17 (d := dd17) rfl
      exact ⟨He.glo_ok X G0 (c.fact 17 (f := .glo "_law_pick") rfl), _, fd, _, gf.«_law_pick», rw17 FD⟩
    rcases List.mem_cons.mp hp with rfl | hp
    · obtain ⟨fd, FD⟩ := c.def_ 18 (d := dd18) rfl
      exact ⟨He.glo_ok X G0 (c.fact 18 (f := .glo "_law_alike") rfl), _, fd, _, gf.«_law_alike», rw18 FD⟩
    rcases List.mem_cons.mp hp with rfl | hp
    · obtain ⟨fd, FD⟩ := c.def_ 19 (d := dd19) rfl
      exact ⟨He.glo_ok X G0 (c.fact 19 (f := .glo "_law_updates") rfl), _, fd, _, gf.«_law_updates», rw19 FD⟩
    rcases List.mem_cons.mp hp with rfl | hp
    · obtain ⟨fd, FD⟩ := c.def_ 20 (d := dd20) rfl
      exact ⟨He.glo_ok X G0 (c.fact 20 (f := .glo "_law_last") rfl), _, fd, _, gf.«_law_last», rw20 FD⟩
    rcases List.mem_cons.mp hp with rfl | hp
    · obtain ⟨fd, FD⟩ := c.def_ 21 (d := dd21) rfl
      exact ⟨He.glo_ok X G0 (c.fact 21 (f := .glo "law") rfl), _, fd, _, gf.«law», rw21 FD⟩
    cases hp
  all := by
    intro f fd' hf
    match f, hf with
    | 0, _ => exact ⟨"is_whole", by decide +kernel⟩
    | 1, _ => exact ⟨"is_within", by decide +kernel⟩
    | 2, _ => exact ⟨"is_row", by decide +kernel⟩
    | 3, _ => exact ⟨"first_wrong", by decide +kernel⟩
    | 4, _ => exact ⟨"place_told", by decide +kernel⟩
    | 5, _ => exact ⟨"has_form", by decide +kernel⟩
    | 6, _ => exact ⟨"is_update", by decide +kernel⟩
    | 7, _ => exact ⟨"require_updates", by decide +kernel⟩
    | 8, _ => exact ⟨"require_every", by decide +kernel⟩
    | 9, _ => exact ⟨"spells", by decide +kernel⟩
    | 10, _ => exact ⟨"overdue_of", by decide +kernel⟩
    | 11, _ => exact ⟨"overdue", by decide +kernel⟩
    | 12, _ => exact ⟨"are_kept", by decide +kernel⟩
    | 13, _ => exact ⟨"least_every", by decide +kernel⟩
    | 14, _ => exact ⟨"next_due", by decide +kernel⟩
    | 15, _ => exact ⟨"open_moments", by decide +kernel⟩
    | 16, _ => exact ⟨"_law_taken", by decide +kernel⟩
    | 17, _ => exact ⟨"_law_pick", by decide +kernel⟩
    | 18, _ => exact ⟨"_law_alike", by decide +kernel⟩
    | 19, _ => exact ⟨"_law_updates", by decide +kernel⟩
    | 20, _ => exact ⟨"_law_last", by decide +kernel⟩
    | 21, _ => exact ⟨"law", by decide +kernel⟩
    | _ + 22, hf => exact absurd hf (by simp [G])
end LawEnd
open PySem PySem.W PySem.Calls PyProof.Rows in
theorem law_holds_of (hs : ∀ ns : List Int, ns.length ≤ 63 → ∃ st', Hr.callN G 16 (.fn F.«law») [.fl (ns.map Hr.D.int)] ⟨[]⟩ = .ok (.bl true) st') : PySem.Challenge.rw_heardroom_k64_whole_updates.Holds := by
  w_on; o_law
  refine HandSHeadRun.head_any (r := OpenLaw.row PySem.Challenge.rw_heardroom_k64_whole_updates) (q := view (OpenLaw.row PySem.Challenge.rw_heardroom_k64_whole_updates).prog [34]) (H := LawEnd.hk) (ob := LawEnd.ob) (M := 2000) (loose := ["is_whole", "is_within", "is_row", "first_wrong", "place_told", "RoomError", "BadNumber", "BadUpdates", "MOST_ROWS", "MOST_MOMENT", "MOST_EVERY", "OPEN", "SAY", "CLOSE", "has_form", "is_update", "require_updates", "require_every", "spells", "overdue_of", "overdue", "are_kept", "least_every", "next_due", "open_moments", "_law_taken", "_law_pick", "_law_alike", "_law_updates", "_law_last"]) (d := HandSHeadRun.topDef (OpenLaw.row PySem.Challenge.rw_heardroom_k64_whole_updates).prog 34) (kwd := []) LawEnd.ob_eq
    (by kernel_rfl) (fun s => by kernel_rfl) LawEnd.run (by kernel_rfl) (by kernel_rfl) (by kernel_rfl) (by rfl) (by first | assumption | decide +kernel) (by decide +kernel) ⟨rfl, rfl, rfl, rfl, rfl, by decide +kernel⟩ ?hw ?hc
  case hw => w_witness2
  case hc =>
    refine L2.walk_ofE (l := PySem.Challenge.rw_heardroom_k64_whole_updates) (n := 63) (k := 16) (x := "script") (CX := L2.CX0) rfl (by decide) (by kernel_rfl) ⟨rfl, by decide, by decide⟩ ?F (fun _ _ _ _ z => z)
    intro w mg fa h Y G0 hmg0
    obtain ⟨K, KX, c⟩ := Y
    have hmg : mg ("law" : PySem.Str) = some (.ref fa) := by
      have e : (HandSHeadRun.topDef (OpenLaw.row PySem.Challenge.rw_heardroom_k64_whole_updates).prog 34).name = ("law" : PySem.Str) := by kernel_rfl
      rw [← e]
      exact hmg0
    have gl := LawEnd.glo KX G0 c
    obtain ⟨fd, FD⟩ := c.def_ 21 (d := LawEnd.dd21) rfl
    have e0 := He.glo_ok KX G0 (c.fact 21 (f := .glo "law") rfl)
    have e := hmg.symm.trans e0
    cases e
    have b := FD.bindsA (ps := ["script"]) fun _ _ _ _ _ _ us hl => match us, hl with | [_], _ => rfl
    exact ⟨K, fd, Hr.spC (LawEnd.Tt K) K (Hr.callN G 16) 1 F.«law», KX, fun s u => b s [u] rfl, fun H a ns hl hO hS => Hr.law_sp hO hS (hs ns hl), fun base hK hB => (Hr.defA (P := (PySem.Challenge.rw_heardroom_k64_whole_updates).prog) (w := w) (base := base) gl 16 F.«law» "law" d.«law» fd ["script"] gf.«law» e0 (LawEnd.rw21 FD)).ok⟩

theorem PySem.Challenge.cw_heardroom_k64_whole_updates_holds : PySem.Challenge.rw_heardroom_k64_whole_updates.Holds :=
  law_holds_of fun ns h => Hr.law_spec 7 ns
