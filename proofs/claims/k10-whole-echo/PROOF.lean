import PyProof.Rows.All
import Wide.All
import OpenK.AllK
import Wide.FinOn
import HandS.ForMost
import HandS.Wide
import HandS.Style
import HandS.Walk
import HandS.IsInst
import HandS.Dict
import HandS.Small
import HandS.Deep
import HandS.SortInts
import HandS.More
import PySem.Challenge.RW_sumwheel_k10_whole_echo
set_option Elab.async false
set_option linter.all false
set_option maxRecDepth 100000
/-! Den0: plain data, owned data, and what expressions and statements are worth (no heap here). -/
namespace Den
open PySem L2

/-- the kind of a node -/
inductive Nk where
  | lst | tup
  | ins (c : Str) (ns : List Str)
  | dk (kvs : List (Key × V))
  | dt (kvs : List (List Key × V))

/-- plain data -/
inductive D where
  | at (v : V)
  | nd (k : Nk) (xs : List D)

/-- data with its owned part: what stands under nd is new and known to nobody else -/
inductive O where
  | val (d : D)
  | nd (k : Nk) (xs : List O)

abbrev D.int (i : Int) : D := .at (.int i)
abbrev D.bl (b : Bool) : D := .at (.bl b)
abbrev D.non : D := .at .non
abbrev D.lst (xs : List D) : D := .nd .lst xs
abbrev D.tup (xs : List D) : D := .nd .tup xs
abbrev O.int (i : Int) : O := .val (.at (.int i))
abbrev O.bl (b : Bool) : O := .val (.at (.bl b))
abbrev O.non : O := .val (.at .non)
/-- a list of ints; a new one -/
abbrev D.ints (ns : List Int) : D := .nd .lst (ns.map D.int)
abbrev O.ints (ns : List Int) : O := .nd .lst (ns.map O.int)

mutual
def O.toD : O → D
  | .val d => d
  | .nd k xs => .nd k (O.toDs xs)
def O.toDs : List O → List D
  | [] => []
  | x :: xs => x.toD :: O.toDs xs
end
theorem O.toDs_map : ∀ xs : List O, O.toDs xs = xs.map O.toD
  | [] => rfl
  | x :: xs => by rw [O.toDs, O.toDs_map xs]; rfl
def O.isVal : O → Bool
  | .val _ => true
  | .nd _ _ => false
def O.vals? : List O → Option (List D)
  | [] => some []
  | .val d :: r => (O.vals? r).map (d :: ·)
  | .nd _ _ :: _ => none
/-- the node's kind and its items, which are shared data -/
def O.top : O → Option (Nk × List D)
  | .val (.nd k ds) => some (k, ds)
  | .val (.at _) => none
  | .nd k os => (O.vals? os).map fun ds => (k, ds)
mutual
/-- the leaves are flat -/
def O.allFlat : O → Bool
  | .val (.at _) => true
  | .val (.nd _ _) => false
  | .nd _ xs => O.allFlats xs
def O.allFlats : List O → Bool
  | [] => true
  | x :: xs => x.allFlat && O.allFlats xs
end
def O.v? : O → Option V
  | .val (.at v) => some v
  | _ => none
def O.int? : O → Option Int
  | .val (.at (.int i)) => some i
  | _ => none
def O.bl? : O → Option Bool
  | .val (.at (.bl b)) => some b
  | _ => none
def D.int? : D → Option Int
  | .at (.int i) => some i
  | _ => none
def D.v? : D → Option V
  | .at v => some v
  | _ => none
def O.fz (o : O) : O := .val o.toD

abbrev Tau := List (Option O)
abbrev VE := Tau → Option O
abbrev BE := Tau → Option Bool

/-- the most items that a list here has -/
def big : Nat := 100000

/-! ### expressions -/
def bVar (i : Nat) : VE := fun t => (t[i]?).join
/-- a place read as a shared value -/
def vOf (b : VE) : VE := fun t => (b t).bind fun o => if o.isVal then some o else none
/-- a new thing handed over as shared -/
def bFz (e : VE) : VE := fun t => (e t).map O.fz
def vC (v : V) : VE := fun _ => some (.val (.at v))
def v1 (g : O → Option O) (a : VE) : VE := fun t => (a t).bind g
def v2 (g : O → O → Option O) (a b : VE) : VE := fun t => (a t).bind fun x => (b t).bind fun y => g x y
def i2 (g : Int → Int → Option O) (x y : O) : Option O := match x, y with
  | .val (.at (.int i)), .val (.at (.int j)) => g i j
  | _, _ => none
def dSub : O → O → Option O := i2 fun i j => some (.int (i - j))
def dMod : O → O → Option O := i2 fun i j => if 0 < j then some (.int (i % j)) else none
def dFdiv : O → O → Option O := i2 fun i j => if 0 < j ∧ j.natAbs.log2 < 9000 then some (.int (i / j)) else none
def dPow : O → O → Option O := i2 fun i j => if 0 ≤ j ∧ j ≤ 1000000 ∧ i.natAbs < 2 ^ 64 then some (.int (i ^ j.toNat)) else none
def dShl : O → O → Option O := i2 fun i j => if 0 ≤ j ∧ j ≤ 1000000 ∧ i.natAbs < 2 ^ 64 then some (.int (i * 2 ^ j.toNat)) else none
def dShr : O → O → Option O := i2 fun i j => if 0 ≤ j then some (.int (i / 2 ^ j.toNat)) else none
def dAdd (x y : O) : Option O := match x, y with
  | .val (.at (.int i)), .val (.at (.int j)) => some (.int (i + j))
  | x, y => match x.top, y.top with
    | some (.lst, xs), some (.lst, ys) => if xs.length + ys.length ≤ big then some (.nd .lst ((xs ++ ys).map O.val)) else none
    | some (.tup, xs), some (.tup, ys) => if xs ≠ [] ∧ ys ≠ [] ∧ xs.length + ys.length ≤ big then some (.nd .tup ((xs ++ ys).map O.val)) else none
    | _, _ => none
def dMul (x y : O) : Option O := match x, y with
  | .val (.at (.int i)), .val (.at (.int j)) => if i.natAbs.log2 + j.natAbs.log2 < 1000000 then some (.int (i * j)) else none
  | x, .val (.at (.int k)) => match x.top with
    | some (.lst, xs) => if -(2 ^ 63) ≤ k ∧ k < 2 ^ 63 ∧ xs.length * k.toNat ≤ big then some (.nd .lst (((List.replicate k.toNat xs).flatten).map O.val)) else none
    | _ => none
  | _, _ => none
def dNeg (x : O) : Option O := match x with
  | .val (.at (.int i)) => some (.int (-i))
  | _ => none
def dBin : Operator → O → O → Option O
  | .Add => dAdd | .Sub => dSub | .Mult => dMul | .Mod => dMod | .FloorDiv => dFdiv | .Pow => dPow | .LShift => dShl | .RShift => dShr
  | _ => fun _ _ => none
def vBin (op : Operator) (a b : VE) : VE := v2 (dBin op) a b
def vNeg (a : VE) : VE := v1 dNeg a

/-! #### dicts -/
def vkey : V → Option L2.Key
  | .int i => some (.inl i)
  | .str x => some (.inr x)
  | _ => none
def keys? : List D → Option (List L2.Key)
  | [] => some []
  | .at v :: r => (vkey v).bind fun k => (keys? r).map (k :: ·)
  | .nd _ _ :: _ => none
def O.isDict : O → Bool
  | .val (.nd (.dk _) _) => true
  | .val (.nd (.dt _) _) => true
  | .nd (.dk _) _ => true
  | .nd (.dt _) _ => true
  | _ => false
/-- what a dict has under a key -/
def O.dget (x y : O) : Option (Option V) := match x.toD with
  | .nd (.dk kvs) _ => match y.toD with
    | .at v => (vkey v).map fun k => valV kvs k
    | _ => none
  | .nd (.dt kvs) _ => match y.toD with
    | .nd .tup ds => (keys? ds).map fun k => valV kvs k
    | _ => none
  | _ => none
/-! #### comparisons -/
mutual
def D.py : D → Option PyData
  | .at .non => some .none
  | .at (.bl b) => some (.bool b)
  | .at (.int i) => some (.int i)
  | .at (.str x) => some (.str x)
  | .nd .lst xs => (D.pys xs).map .list
  | .nd .tup xs => (D.pys xs).map .tuple
  | _ => none
def D.pys : List D → Option (List PyData)
  | [] => some []
  | x :: xs => x.py.bind fun a => (D.pys xs).map (a :: ·)
end
def dEq (x y : D) : Option Bool := x.py.bind fun a => y.py.bind fun b => if SeqAt.shaped a = true ∧ SeqAt.shaped b = true then some (PyData.eqv a b) else none
def flats? : List D → Option (List V)
  | [] => some []
  | .at v :: r => (flats? r).map (v :: ·)
  | .nd _ _ :: _ => none
def dIn (x y : O) : Option Bool := if y.isDict = true then (y.dget x).map Option.isSome else match x with
  | .val (.at v) => match y.toD with
    | .nd .lst ds => (flats? ds).bind fun vs => if flatV v = true ∧ vs.all flatV = true then some (inV v vs) else none
    | .nd .tup ds => (flats? ds).bind fun vs => if flatV v = true ∧ vs.all flatV = true then some (inV v vs) else none
    | _ => none
  | _ => none
def dIs (x y : O) : Option Bool := match x, y with
  | .val (.at (.bl a)), .val (.at (.bl b)) => some (decide (a = b))
  | _, _ => none
def c2 (g : Int → Int → Bool) (x y : O) : Option Bool := match x, y with
  | .val (.at (.int i)), .val (.at (.int j)) => some (g i j)
  | _, _ => none
def dCmp : CmpOp → O → O → Option Bool
  | .Eq => fun x y => dEq x.toD y.toD
  | .NotEq => fun x y => (dEq x.toD y.toD).map (!·)
  | .Lt => c2 fun i j => decide (i < j)
  | .LtE => c2 fun i j => decide (i ≤ j)
  | .Gt => c2 fun i j => decide (j < i)
  | .GtE => c2 fun i j => decide (j ≤ i)
  | .In => dIn
  | .NotIn => fun x y => (dIn x y).map (!·)
  | .Is => dIs
  | .IsNot => fun x y => (dIs x y).map (!·)
def vCmp (op : CmpOp) (a b : VE) : VE := fun t => (a t).bind fun x => (b t).bind fun y => (dCmp op x y).map O.bl
def vChain (op op' : CmpOp) (a b c : VE) : VE := fun t => (a t).bind fun x => (b t).bind fun y => (dCmp op x y).bind fun k =>
  if k = true then (c t).bind fun z => (dCmp op' y z).map O.bl else some (.bl false)
/-! #### truth -/
def vAnd (a b : VE) : VE := fun t => (a t).bind fun x => x.bl?.bind fun c => if c = true then b t else some (.bl false)
def vOr (a b : VE) : VE := fun t => (a t).bind fun x => x.bl?.bind fun c => if c = true then some (.bl true) else b t
def vNot (a : VE) : VE := fun t => (a t).bind fun x => x.bl?.map fun c => .bl (!c)
def bT (a : VE) : BE := fun t => (a t).bind O.bl?
def bAnd (a b : BE) : BE := fun t => (a t).bind fun c => if c = true then b t else some false
def bOr (a b : BE) : BE := fun t => (a t).bind fun c => if c = true then some true else b t
def bNot (a : BE) : BE := fun t => (a t).map (!·)
def vIf (c : BE) (a b : VE) : VE := fun t => (c t).bind fun k => if k = true then a t else b t

/-! #### places -/
def O.child (x : O) (j : Int) : Option O := match x with
  | .val (.nd .lst ds) => (atI ds j).map O.val
  | .val (.nd .tup ds) => (atI ds j).map O.val
  | .nd .lst os => atI os j
  | .nd .tup os => atI os j
  | _ => none
def dIx (x y : O) : Option O := if x.isDict = true then (x.dget y).bind fun r => r.map fun v => .val (.at v) else match y with
  | .val (.at (.int j)) => x.child j
  | _ => none
def bIx (a b : VE) : VE := v2 dIx a b
def O.field (f : Str) (x : O) : Option O := match x with
  | .val (.nd (.ins _ ns) ds) => ((ns.zip ds).lookup f).map O.val
  | .nd (.ins _ ns) os => (ns.zip os).lookup f
  | _ => none
def bFld (f : Str) (a : VE) : VE := v1 (O.field f) a
def cut {α : Type} (xs : List α) (lo hi : Option Int) : List α := (xs.drop (HT.sIx xs.length 0 lo)).take (HT.sIx xs.length xs.length hi - HT.sIx xs.length 0 lo)
def dSl (x : O) (lo hi : Option Int) : Option O := match x.top with
  | some (.lst, ds) => some (.nd .lst ((cut ds lo hi).map O.val))
  | _ => none
def opI (e : Option VE) : Tau → Option (Option Int) := match e with
  | none => fun _ => some none
  | some e => fun t => (e t).bind fun x => x.int?.map some
def vSl (a : VE) (lo hi : Option VE) : VE := fun t => (a t).bind fun x => (opI lo t).bind fun l => (opI hi t).bind fun h => dSl x l h
def dRev (x : O) : Option O := match x.top with
  | some (.lst, ds) => some (.nd .lst (ds.reverse.map O.val))
  | _ => none
def vRev (a : VE) : VE := v1 dRev a
/-- xs[:0:-1] -/
def dRev1 (x : O) : Option O := match x.top with
  | some (.lst, ds) => some (.nd .lst ((ds.drop 1).reverse.map O.val))
  | _ => none
def vRev1 (a : VE) : VE := v1 dRev1 a

/-- d.get(k, z) -/
def vGet (d k z : VE) : VE := fun t => (d t).bind fun x => (k t).bind fun y => (z t).bind fun w => w.v?.bind fun wv => (x.dget y).map fun r => .val (.at (r.getD wv))
/-- xs.index(y) -/
def dIndex (x y : O) : Option O := x.toD.py.bind fun px => y.toD.py.bind fun py => match px with
  | .list ds => if SeqAt.shaped px = true ∧ SeqAt.shaped py = true then (ds.findIdx? fun z => PyData.eqv z py).map fun j => .int (j : Nat) else none
  | _ => none

/-! #### displays -/
def vAll : List VE → Tau → Option (List O)
  | [], _ => some []
  | e :: r, t => (e t).bind fun x => (vAll r t).map (x :: ·)
/-- a display that is only read -/
def bNd (k : Nk) (es : List VE) : VE := fun t => (vAll es t).bind fun xs => if xs.length ≤ big then some (.nd k xs) else none
def vNd (k : Nk) (es : List VE) : VE := fun t => (vAll es t).bind fun xs => if xs.length ≤ big then some (.nd k xs) else none

/-! #### built-in calls of one argument -/
def dLen (x : O) : Option O := match x.toD with
  | .nd .lst ds => some (.int ds.length)
  | .nd .tup ds => some (.int ds.length)
  | _ => none
def dAbs (x : O) : Option O := x.int?.map fun i => .int (if i < 0 then -i else i)
def dInt (x : O) : Option O := match x with
  | .val (.at (.int i)) => some (.int i)
  | .val (.at (.bl b)) => some (.int (if b then 1 else 0))
  | _ => none
def dMax (x y : O) : Option O := i2 (fun i j => some (.int (if j > i then j else i))) x y
def dMin (x y : O) : Option O := i2 (fun i j => some (.int (if j < i then j else i))) x y
def ints? : List D → Option (List Int)
  | [] => some []
  | .at (.int i) :: r => (ints? r).map (i :: ·)
  | _ :: _ => none
def bls? : List D → Option (List Bool)
  | [] => some []
  | .at (.bl i) :: r => (bls? r).map (i :: ·)
  | _ :: _ => none
def dSum (x : O) : Option O := match x.toD with
  | .nd .lst ds => (ints? ds).map fun ns => .int ns.sum
  | _ => none
def dAny (x : O) : Option O := match x.toD with
  | .nd .lst ds => (bls? ds).map fun ns => .bl (ns.any id)
  | _ => none
/-- any of ints -/
def dAnyI (x : O) : Option O := match x.toD with
  | .nd .lst ds => (ints? ds).map fun ns => .bl (ns.any fun i => decide (i ≠ 0))
  | _ => none
def dAny2 (x : O) : Option O := (dAny x).or (dAnyI x)
def ikeys? : List (L2.Key × V) → Option (List Int)
  | [] => some []
  | (.inl i, _) :: r => (ikeys? r).map (i :: ·)
  | _ :: _ => none
def insI (x : Int) : List Int → List Int
  | [] => [x]
  | y :: r => if x ≤ y then x :: y :: r else y :: insI x r
def isort : List Int → List Int
  | [] => []
  | x :: r => insI x (isort r)
def dSorted (x : O) : Option O := match x.toD with
  | .nd .lst ds => (ints? ds).map fun ns => .ints (isort ns)
  | .nd (.dk kvs) _ => (ikeys? kvs).bind fun ks => if ks.length < 64 then some (.ints (isort ks)) else none
  | _ => none
def maxI : Int → List Int → Int
  | m, [] => m
  | m, x :: r => maxI (if m < x then x else m) r
def dMaxL (x : O) : Option O := match x.toD with
  | .nd .lst ds => (ints? ds).bind fun ns => match ns with
    | [] => none
    | n :: r => some (.int (maxI n r))
  | _ => none
def dAll (x : O) : Option O := match x.toD with
  | .nd .lst ds => (bls? ds).map fun ns => .bl (ns.all id)
  | _ => none
def dList (x : O) : Option O := match x.top with
  | some (.lst, ds) => some (.nd .lst (ds.map O.val))
  | some (.tup, ds) => some (.nd .lst (ds.map O.val))
  | _ => none
def dTuple (x : O) : Option O := match x.top with
  | some (.lst, ds) => some (.nd .tup (ds.map O.val))
  | _ => none
/-- a value's own type, by name -/
def O.ty (x : O) : Option String := match x.toD with
  | .at .non => some "NoneType"
  | .at (.bl _) => some "bool"
  | .at (.int _) => some "int"
  | .at (.str _) => some "str"
  | .nd .lst _ => some "list"
  | .nd .tup _ => some "tuple"
  | .nd (.dk _) [] => some "dict"
  | .nd (.dt _) [] => some "dict"
  | _ => none
def dIsB (n : String) (x : O) : Option O := x.ty.bind fun a => (kitB a n).map O.bl

/-! #### walks -/
abbrev WE := Tau → Option (List D)
def wSeq (a : VE) : WE := fun t => (a t).bind fun x => match x with
  | .val (.nd .lst ds) => some ds
  | .val (.nd .tup ds) => some ds
  | _ => none
def iota (lo : Int) (n : Nat) : List D := (List.range n).map fun i => D.int (lo + (i : Nat))
def wRange1 (a : VE) : WE := fun t => (a t).bind fun x => x.int?.bind fun j => if -(2 ^ 62) ≤ j ∧ j < 2 ^ 62 then some (iota 0 j.toNat) else none
def wRange2 (a b : VE) : WE := fun t => (a t).bind fun x => (b t).bind fun y => x.int?.bind fun i => y.int?.bind fun j =>
  if -(2 ^ 62) ≤ i ∧ i < 2 ^ 62 ∧ -(2 ^ 62) ≤ j ∧ j < 2 ^ 62 then some (iota i (j - i).toNat) else none
def wRange3 (a b c : VE) : WE := fun t => (a t).bind fun x => (b t).bind fun y => (c t).bind fun z => x.int?.bind fun i => y.int?.bind fun j => z.int?.bind fun k =>
  if k ≠ 0 ∧ k.natAbs < 1073741824 ∧ Builtin.Range.small i j k = true ∧ 0 ≤ Builtin.Range.rangeSize i j k then some ((List.range (Builtin.Range.rangeSize i j k).toNat).map fun m => D.int (i + (m : Nat) * k)) else none
def wZip (a b : VE) : WE := fun t => (a t).bind fun x => (b t).bind fun y => match x, y with
  | .val (.nd .lst ds), .val (.nd .lst es) => some ((ds.zip es).map fun p => D.nd .tup [p.1, p.2])
  | _, _ => none
def wEnum (a : VE) : WE := fun t => (a t).bind fun x => match x with
  | .val (.nd .lst ds) => some (((List.range ds.length).zip ds).map fun p => D.nd .tup [D.int (p.1 : Nat), p.2])
  | _ => none

/-! #### targets -/
abbrev GE := D → Tau → Option Tau
def gN (i : Nat) : GE := fun d t => some (t.set i (some (.val d)))
def gSet : List Nat → List D → Tau → Option Tau
  | [], [], t => some t
  | i :: is, d :: ds, t => gSet is ds (t.set i (some (.val d)))
  | _, _, _ => none
def gT (is : List Nat) : GE := fun d t => match d with
  | .nd .tup ds => gSet is ds t
  | _ => none
def wipeT (t : Tau) : List Nat → Tau
  | [] => t
  | v :: vs => (wipeT t vs).set v none
/-- a comprehension's items -/
def lcItems (g : GE) (c : BE) (e : VE) (t : Tau) : List D → Option (List D)
  | [] => some []
  | d :: ds => (g d t).bind fun t1 => (c t1).bind fun k => if k = true then (e t1).bind fun x => (lcItems g c e t ds).map (x.toD :: ·) else lcItems g c e t ds
def bYes : BE := fun _ => some true
def vLc (w : WE) (own : List Nat) (g : GE) (c : BE) (e : VE) : VE := fun t => (w t).bind fun ds => if ds.length ≤ big then (lcItems g c e (wipeT t own) ds).map fun xs => .nd .lst (xs.map O.val) else none

/-! #### calls -/
abbrev Fn := List O → Option O
abbrev AE := Tau → Option (O × Bool)
def aPl (b : VE) : AE := fun t => (b t).map fun o => (.val o.toD, o.isVal)
def aNp (e : VE) : AE := fun t => (e t).map fun o => (.val o.toD, true)
def aMv (e : VE) : AE := fun t => (e t).map fun o => (o, true)
def aAll : List AE → Tau → Option (List O × Bool)
  | [], _ => some ([], true)
  | e :: r, t => (e t).bind fun x => (aAll r t).map fun q => (x.1 :: q.1, x.2 && q.2)
def vCall (F : Fn) (as : List AE) : VE := fun t => (aAll as t).bind fun q => (F q.1).bind fun r => if q.2 = true ∨ (q.1.all O.isVal = true ∧ r.allFlat = true) then some r else none

/-! ### statements -/
inductive Out where
  | nx (t : Tau) | bk (t : Tau) | ct (t : Tau) | rt (o : O)
abbrev SE := Tau → Option Out
def fzAt (t : Tau) : List Nat → Tau
  | [] => t
  | i :: is => fzAt (match t[i]? with | some (some o) => t.set i (some o.fz) | _ => t) is
def fzAll (t : Tau) : Tau := t.map (·.map O.fz)
def sNext : SE := fun t => some (.nx t)
def sBreak : SE := fun t => some (.bk t)
def sCont : SE := fun t => some (.ct t)
def sSeq (s u : SE) : SE := fun t => (s t).bind fun o => match o with
  | .nx t' => u t'
  | o => some o
def sFz (fz : List Nat) (s : SE) : SE := fun t => s (fzAt t fz)
def sAsg (i : Nat) (e : VE) : SE := fun t => (e t).map fun o => .nx (t.set i (some o))
def setAll : List Nat → List O → Tau → Option Tau
  | [], [], t => some t
  | i :: is, o :: os, t => setAll is os (t.set i (some o))
  | _, _, _ => none
def sPar (is : List Nat) (es : List VE) : SE := fun t => (vAll es t).bind fun os => (setAll is os t).map .nx
/-- a, b = e -/
def sUnp (is : List Nat) (e : VE) : SE := fun t => (e t).bind fun o => match o with
  | .val d => (gT is d t).map .nx
  | _ => none
def sDrop (e : VE) : SE := fun t => (e t).map fun _ => .nx t
def sRet (e : VE) : SE := fun t => (e (fzAll t)).map .rt
def sRetN (i : Nat) : SE := fun t => (bVar i t).map .rt
def sIf (c : BE) (s u : SE) : SE := fun t => (c t).bind fun k => if k = true then s t else u t
def forIn' (g : GE) (b : SE) : List D → Tau → Option Out
  | [], t => some (.nx t)
  | d :: ds, t => (g d t).bind fun t1 => (b t1).bind fun o => match o with
    | .nx t2 => forIn' g b ds t2
    | .ct t2 => forIn' g b ds t2
    | .bk t2 => some (.nx t2)
    | .rt o => some (.rt o)
def sFor (w : WE) (g : GE) (b : SE) : SE := fun t => (w t).bind fun ds => forIn' g b ds t
/-- at most n turns -/
def whileN (c : BE) (b : SE) : Nat → SE
  | 0, _ => none
  | n + 1, t => (c t).bind fun k => if k = true then (b t).bind fun o => match o with
      | .nx t2 => whileN c b n t2
      | .ct t2 => whileN c b n t2
      | .bk t2 => some (.nx t2)
      | .rt o => some (.rt o)
    else some (.nx t)
open Classical in
noncomputable def sWhile (c : BE) (b : SE) : SE := fun t => if h : ∃ n, (whileN c b n t).isSome then whileN c b h.choose t else none

/-! #### a path into an owned thing -/
inductive Stp where
  | ix (j : Int) | fl (f : Str) (cs : List Str)
def stepAt (x : O) : Stp → Option (Nat × O)
  | .ix j => match x with
    | .nd .lst os => (ixN os.length j).bind fun m => os[m]?.map fun o => (m, o)
    | .nd .tup os => (ixN os.length j).bind fun m => os[m]?.map fun o => (m, o)
    | _ => none
  | .fl f cs => match x with
    | .nd (.ins c ns) os => if cs.contains c = true ∧ ns.length = os.length then (ns.findIdx? (· == f)).bind fun m => os[m]?.map fun o => (m, o) else none
    | _ => none
def O.putAt (x : O) (m : Nat) (o : O) : O := match x with
  | .nd k os => .nd k (os.set m o)
  | x => x
/-- the owned thing at the path's end changed by g (which gives its new kind and items) -/
def modAt (g : Nk → List O → Option (Nk × List O)) : List Stp → O → Option O
  | [], .nd k os => (g k os).map fun r => .nd r.1 r.2
  | [], .val _ => none
  | s :: p, x => (stepAt x s).bind fun mo => (modAt g p mo.2).map fun o => x.putAt mo.1 o
def sMod (i : Nat) (p : List Stp) (g : Nk → List O → Option (Nk × List O)) : SE := fun t => (bVar i t).bind fun x => (modAt g p x).map fun o => .nx (t.set i (some o))
def mApp (d : D) : Nk → List O → Option (Nk × List O)
  | .lst, os => if os.length < big then some (.lst, os ++ [.val d]) else none
  | _, _ => none
def mExt (ds : List D) : Nk → List O → Option (Nk × List O)
  | .lst, os => if os.length + ds.length ≤ big then some (.lst, os ++ ds.map O.val) else none
  | _, _ => none
def mRev : Nk → List O → Option (Nk × List O)
  | .lst, os => (O.vals? os).map fun ds => (.lst, ds.reverse.map O.val)
  | _, _ => none
def mPut (m : O) (d : D) : Nk → List O → Option (Nk × List O)
  | .lst, os => m.int?.bind fun j => (ixN os.length j).map fun m => (.lst, os.set m (.val d))
  | .dk kvs, os => m.v?.bind fun kv => (vkey kv).bind fun k => d.v?.bind fun v => if kvs.length < big then some (.dk (putK kvs k v), os) else none
  | .dt kvs, os => match m.toD with
    | .nd .tup ds => (keys? ds).bind fun k => d.v?.bind fun v => if kvs.length < big then some (.dt (putK kvs k v), os) else none
    | _ => none
  | _, _ => none
def mClr : Nk → List O → Option (Nk × List O)
  | .lst, _ => some (.lst, [])
  | _, _ => none
def mPop : Nk → List O → Option (Nk × List O)
  | .lst, os => if os ≠ [] then some (.lst, os.dropLast) else none
  | _, _ => none
/-- x.append(e) -/
def sApp (i : Nat) (p : List Stp) (e : VE) : SE := fun t => (e t).bind fun o => sMod i p (mApp o.toD) t
def sExt (i : Nat) (p : List Stp) (e : VE) : SE := fun t => (e t).bind fun o => match o.top with
  | some (.lst, ds) => sMod i p (mExt ds) t
  | _ => none
def sRev (i : Nat) (p : List Stp) : SE := sMod i p mRev
/-- x[j] = e -/
def sPut (i : Nat) (p : List Stp) (j e : VE) : SE := fun t => (e t).bind fun o => (j t).bind fun m => sMod i p (mPut m o.toD) t
def sClr (i : Nat) (p : List Stp) : SE := sMod i p mClr
def sPop (i : Nat) (p : List Stp) : SE := sMod i p mPop

/-! ### defs -/
def fnOf (np n : Nat) (b : SE) : Fn := fun os => if os.length = np then (b (os.map some ++ List.replicate (n - np) none)).bind fun r => match r with
    | .rt o => some o
    | .nx _ => some .non
    | _ => none
  else none
end Den

/-! Den1: how data stands in the heap. -/
namespace Den
open PySem L2

def Nk.At (mg : Str → Option Value) (H : Hp) (a : Addr) : Nk → List V → Prop
  | .lst, vs => H a = some (.lst vs)
  | .tup, vs => H a = some (.tup vs)
  | .ins c ns, vs => ns.length = vs.length ∧ ∃ C dx, mg c = some (.ref C) ∧ H a = some (.ins C dx (ns.zip vs))
  | .dk kvs, vs => vs = [] ∧ H a = some (.dK kvs)
  | .dt kvs, vs => vs = [] ∧ H a = some (.dT kvs)

section
variable (mg : Str → Option Value) (S : Addr → Prop) (H : Hp)
mutual
def Rep : D → V → Prop
  | .at w, v => v = w
  | .nd k xs, v => ∃ a vs, v = .ref a ∧ ¬ S a ∧ k.At mg H a vs ∧ Reps xs vs
def Reps : List D → List V → Prop
  | [], vs => vs = []
  | x :: xs, vs => ∃ v r, vs = v :: r ∧ Rep x v ∧ Reps xs r
end
mutual
def RepO : O → V → List Addr → Prop
  | .val d, v, as => as = [] ∧ Rep mg S H d v
  | .nd k xs, v, as => ∃ a vs bs, v = .ref a ∧ as = a :: bs ∧ k.At mg H a vs ∧ RepOs xs vs bs
def RepOs : List O → List V → List Addr → Prop
  | [], vs, as => vs = [] ∧ as = []
  | x :: xs, vs, as => ∃ v r bs cs, vs = v :: r ∧ as = bs ++ cs ∧ RepO x v bs ∧ RepOs xs r cs
end
def RepSl : Tau → St → List Addr → Prop
  | [], σ, as => σ = [] ∧ as = []
  | none :: t, σ, as => ∃ x r, σ = x :: r ∧ RepSl t r as
  | some o :: t, σ, as => ∃ v r bs cs, σ = some v :: r ∧ as = bs ++ cs ∧ RepO mg S H o v bs ∧ RepSl t r cs
end

section
variable {mg : Str → Option Value} {S S' : Addr → Prop} {H H' : Hp}
/-- what matters of a node's place stays -/
theorem Nk.At.keep {k : Nk} {a : Addr} {vs : List V} (h : k.At mg H a vs) (e : ∀ o, H a = some o → H' a = some o) : k.At mg H' a vs := by
  cases k with
  | lst => exact e _ h
  | tup => exact e _ h
  | ins c ns => obtain ⟨l, C, dx, hc, h⟩ := h; exact ⟨l, C, dx, hc, e _ h⟩
  | dk kvs => exact ⟨h.1, e _ h.2⟩
  | dt kvs => exact ⟨h.1, e _ h.2⟩
theorem Nk.At.some {k : Nk} {a : Addr} {vs : List V} (h : k.At mg H a vs) : ∃ o, H a = some o := by
  cases k with
  | lst => exact ⟨_, h⟩
  | tup => exact ⟨_, h⟩
  | ins c ns => obtain ⟨l, C, dx, hc, h⟩ := h; exact ⟨_, h⟩
  | dk kvs => exact ⟨_, h.2⟩
  | dt kvs => exact ⟨_, h.2⟩
mutual
theorem Rep.keep (hs : ∀ a, S' a → S a) (e : ∀ a o, ¬ S a → H a = some o → H' a = some o) : ∀ {d : D} {v : V}, Rep mg S H d v → Rep mg S' H' d v
  | .at w, v, h => h
  | .nd k xs, v, h => by
    obtain ⟨a, vs, h1, h2, h3, h4⟩ := h
    exact ⟨a, vs, h1, fun z => h2 (hs a z), h3.keep fun o q => e a o h2 q, Reps.keep hs e h4⟩
theorem Reps.keep (hs : ∀ a, S' a → S a) (e : ∀ a o, ¬ S a → H a = some o → H' a = some o) : ∀ {ds : List D} {vs : List V}, Reps mg S H ds vs → Reps mg S' H' ds vs
  | [], vs, h => h
  | x :: xs, vs, h => by
    obtain ⟨v, r, h1, h2, h3⟩ := h
    exact ⟨v, r, h1, Rep.keep hs e h2, Reps.keep hs e h3⟩
end
theorem Rep.same {d : D} {v : V} (h : Rep mg S H d v) (e : Same H H') : Rep mg S H' d v := h.keep (fun _ z => z) fun a o _ q => e a o q
theorem Reps.same {d : List D} {v : List V} (h : Reps mg S H d v) (e : Same H H') : Reps mg S H' d v := h.keep (fun _ z => z) fun a o _ q => e a o q
theorem Rep.less {d : D} {v : V} (h : Rep mg S H d v) (hs : ∀ a, S' a → S a) : Rep mg S' H d v := h.keep hs fun a o _ q => q
theorem Reps.less {d : List D} {v : List V} (h : Reps mg S H d v) (hs : ∀ a, S' a → S a) : Reps mg S' H d v := h.keep hs fun a o _ q => q
mutual
theorem RepO.keep (hs : ∀ a, S' a → S a) (e : ∀ a o, ¬ S a → H a = some o → H' a = some o) : ∀ {o : O} {v : V} {as : List Addr}, (∀ a ∈ as, ∀ u, H a = some u → H' a = some u) → RepO mg S H o v as → RepO mg S' H' o v as
  | .val d, v, as, _, h => ⟨h.1, h.2.keep hs e⟩
  | .nd k xs, v, as, ha, h => by
    obtain ⟨a, vs, bs, h1, h2, h3, h4⟩ := h
    subst h2
    exact ⟨a, vs, bs, h1, rfl, h3.keep fun o q => ha a List.mem_cons_self o q, RepOs.keep hs e (fun b hb => ha b (List.mem_cons_of_mem _ hb)) h4⟩
theorem RepOs.keep (hs : ∀ a, S' a → S a) (e : ∀ a o, ¬ S a → H a = some o → H' a = some o) : ∀ {os : List O} {vs : List V} {as : List Addr}, (∀ a ∈ as, ∀ u, H a = some u → H' a = some u) → RepOs mg S H os vs as → RepOs mg S' H' os vs as
  | [], vs, as, _, h => h
  | x :: xs, vs, as, ha, h => by
    obtain ⟨v, r, bs, cs, h1, h2, h3, h4⟩ := h
    subst h2
    exact ⟨v, r, bs, cs, h1, rfl, RepO.keep hs e (fun b hb => ha b (List.mem_append_left _ hb)) h3, RepOs.keep hs e (fun b hb => ha b (List.mem_append_right _ hb)) h4⟩
end
theorem RepO.same {o : O} {v : V} {as : List Addr} (h : RepO mg S H o v as) (e : Same H H') : RepO mg S H' o v as := h.keep (fun _ z => z) (fun a o _ q => e a o q) fun a _ u q => e a u q
theorem RepOs.same {o : List O} {v : List V} {as : List Addr} (h : RepOs mg S H o v as) (e : Same H H') : RepOs mg S H' o v as := h.keep (fun _ z => z) (fun a o _ q => e a o q) fun a _ u q => e a u q
theorem RepSl.keep (hs : ∀ a, S' a → S a) (e : ∀ a o, ¬ S a → H a = some o → H' a = some o) : ∀ {t : Tau} {σ : St} {as : List Addr}, (∀ a ∈ as, ∀ u, H a = some u → H' a = some u) → RepSl mg S H t σ as → RepSl mg S' H' t σ as
  | [], σ, as, _, h => h
  | none :: t, σ, as, ha, h => by
    obtain ⟨x, r, h1, h2⟩ := h
    exact ⟨x, r, h1, RepSl.keep hs e ha h2⟩
  | some o :: t, σ, as, ha, h => by
    obtain ⟨v, r, bs, cs, h1, h2, h3, h4⟩ := h
    subst h2
    exact ⟨v, r, bs, cs, h1, rfl, h3.keep hs e fun b hb => ha b (List.mem_append_left _ hb), RepSl.keep hs e (fun b hb => ha b (List.mem_append_right _ hb)) h4⟩
theorem RepSl.same {t : Tau} {σ : St} {as : List Addr} (h : RepSl mg S H t σ as) (e : Same H H') : RepSl mg S H' t σ as := h.keep (fun _ z => z) (fun a o _ q => e a o q) fun a _ u q => e a u q
/-! #### owned things read as data -/
mutual
theorem RepO.toD (hs : ∀ a, S' a → S a) : ∀ {o : O} {v : V} {as : List Addr}, (∀ a ∈ as, ¬ S' a) → RepO mg S H o v as → Rep mg S' H o.toD v
  | .val d, v, as, _, h => h.2.less hs
  | .nd k xs, v, as, ha, h => by
    obtain ⟨a, vs, bs, h1, h2, h3, h4⟩ := h
    subst h2
    exact ⟨a, vs, h1, ha a List.mem_cons_self, h3, RepOs.toD hs (fun b hb => ha b (List.mem_cons_of_mem _ hb)) h4⟩
theorem RepOs.toD (hs : ∀ a, S' a → S a) : ∀ {os : List O} {vs : List V} {as : List Addr}, (∀ a ∈ as, ¬ S' a) → RepOs mg S H os vs as → Reps mg S' H (O.toDs os) vs
  | [], vs, as, _, h => h.1
  | x :: xs, vs, as, ha, h => by
    obtain ⟨v, r, bs, cs, h1, h2, h3, h4⟩ := h
    subst h2
    exact ⟨v, r, h1, RepO.toD hs (fun b hb => ha b (List.mem_append_left _ hb)) h3, RepOs.toD hs (fun b hb => ha b (List.mem_append_right _ hb)) h4⟩
end
abbrev noS : Addr → Prop := fun _ => False
/-- read with no care -/
theorem RepO.any {o : O} {v : V} {as : List Addr} (h : RepO mg S H o v as) : Rep mg noS H o.toD v := h.toD (fun _ z => z.elim) fun _ _ z => z
theorem RepOs.any {o : List O} {v : List V} {as : List Addr} (h : RepOs mg S H o v as) : Reps mg noS H (O.toDs o) v := h.toD (fun _ z => z.elim) fun _ _ z => z
theorem RepO.fz {o : O} {v : V} {as : List Addr} (h : RepO mg S H o v as) (ha : ∀ a ∈ as, ¬ S a) : RepO mg S H o.fz v [] := ⟨rfl, h.toD (fun _ z => z) ha⟩
/-! the owned addresses stand -/
mutual
theorem RepO.there : ∀ {o : O} {v : V} {as : List Addr}, RepO mg S H o v as → ∀ a ∈ as, ∃ u, H a = some u
  | .val d, v, as, h => by
    have e := h.1
    subst e
    intro a ha
    cases ha
  | .nd k xs, v, as, h => by
    obtain ⟨a, vs, bs, h1, h2, h3, h4⟩ := h
    subst h2
    intro b hb
    rcases List.mem_cons.mp hb with z | z
    · subst z; exact h3.some
    · exact RepOs.there h4 b z
theorem RepOs.there : ∀ {os : List O} {vs : List V} {as : List Addr}, RepOs mg S H os vs as → ∀ a ∈ as, ∃ u, H a = some u
  | [], vs, as, h => by
    have e := h.2
    subst e
    intro a ha
    cases ha
  | x :: xs, vs, as, h => by
    obtain ⟨v, r, bs, cs, h1, h2, h3, h4⟩ := h
    subst h2
    intro b hb
    rcases List.mem_append.mp hb with z | z
    · exact RepO.there h3 b z
    · exact RepOs.there h4 b z
end
theorem RepSl.there : ∀ {t : Tau} {σ : St} {as : List Addr}, RepSl mg S H t σ as → ∀ a ∈ as, ∃ u, H a = some u
  | [], σ, as, h => by
    have e := h.2
    subst e
    intro a ha
    cases ha
  | none :: t, σ, as, h => by
    obtain ⟨x, r, h1, h2⟩ := h
    exact RepSl.there h2
  | some o :: t, σ, as, h => by
    obtain ⟨v, r, bs, cs, h1, h2, h3, h4⟩ := h
    subst h2
    intro b hb
    rcases List.mem_append.mp hb with z | z
    · exact RepO.there h3 b z
    · exact RepSl.there h4 b z
theorem RepSl.length : ∀ {t : Tau} {σ : St} {as : List Addr}, RepSl mg S H t σ as → σ.length = t.length
  | [], σ, as, h => by rw [h.1]; rfl
  | none :: t, σ, as, h => by
    obtain ⟨x, r, h1, h2⟩ := h
    rw [h1, List.length_cons, List.length_cons, RepSl.length h2]
  | some o :: t, σ, as, h => by
    obtain ⟨v, r, bs, cs, h1, h2, h3, h4⟩ := h
    rw [h1, List.length_cons, List.length_cons, RepSl.length h4]
/-! #### lists of data -/
theorem Reps.length : ∀ {ds : List D} {vs : List V}, Reps mg S H ds vs → vs.length = ds.length
  | [], vs, h => by
    have e : vs = [] := h
    rw [e]; rfl
  | x :: xs, vs, h => by
    obtain ⟨v, r, h1, h2, h3⟩ := h
    rw [h1, List.length_cons, List.length_cons, Reps.length h3]
theorem Reps.get : ∀ {ds : List D} {vs : List V} {i : Nat} {d : D}, Reps mg S H ds vs → ds[i]? = some d → ∃ v, vs[i]? = some v ∧ Rep mg S H d v
  | [], vs, i, d, h, e => by simp at e
  | x :: xs, vs, 0, d, h, e => by
    obtain ⟨v, r, h1, h2, h3⟩ := h
    simp at e
    subst e h1
    exact ⟨v, rfl, h2⟩
  | x :: xs, vs, i + 1, d, h, e => by
    obtain ⟨v, r, h1, h2, h3⟩ := h
    subst h1
    obtain ⟨w, q1, q2⟩ := Reps.get (i := i) (d := d) h3 (by simpa using e)
    exact ⟨w, by simpa using q1, q2⟩
theorem Reps.getV {ds : List D} {vs : List V} {i : Nat} {v : V} (h : Reps mg S H ds vs) (e : vs[i]? = some v) : ∃ d, ds[i]? = some d ∧ Rep mg S H d v := by
  have hl := h.length
  obtain ⟨h1, h2⟩ := List.getElem?_eq_some_iff.mp e
  obtain ⟨w, q1, q2⟩ := h.get (i := i) (List.getElem?_eq_getElem (by omega))
  rw [e] at q1
  cases q1
  exact ⟨_, List.getElem?_eq_getElem (by omega), q2⟩
theorem Reps.append : ∀ {ds es : List D} {vs us : List V}, Reps mg S H ds vs → Reps mg S H es us → Reps mg S H (ds ++ es) (vs ++ us)
  | [], es, vs, us, h, k => by
    have e : vs = [] := h
    subst e
    exact k
  | x :: xs, es, vs, us, h, k => by
    obtain ⟨v, r, h1, h2, h3⟩ := h
    subst h1
    exact ⟨v, r ++ us, rfl, h2, Reps.append h3 k⟩
theorem Reps.of_get : ∀ {ds : List D} {vs : List V}, vs.length = ds.length → (∀ (i : Nat) (v : V) (d : D), vs[i]? = some v → ds[i]? = some d → Rep mg S H d v) → Reps mg S H ds vs
  | [], vs, hl, _ => by
    show vs = []
    exact List.eq_nil_of_length_eq_zero hl
  | d :: ds, [], hl, _ => by simp at hl
  | d :: ds, v :: vs, hl, h => ⟨v, vs, rfl, h 0 v d rfl rfl, Reps.of_get (by simpa using hl) fun i v' d' h1 h2 => h (i + 1) v' d' (by simpa using h1) (by simpa using h2)⟩
theorem Reps.take {ds : List D} {vs : List V} (n : Nat) (h : Reps mg S H ds vs) : Reps mg S H (ds.take n) (vs.take n) :=
  Reps.of_get (by rw [List.length_take, List.length_take, h.length]) fun i v d h1 h2 => by
    rw [List.getElem?_take] at h1 h2
    split at h1
    · rename_i hi
      rw [if_pos hi] at h2
      obtain ⟨w, q1, q2⟩ := h.get h2
      rw [h1] at q1
      cases q1
      exact q2
    · cases h1
theorem Reps.drop {ds : List D} {vs : List V} (n : Nat) (h : Reps mg S H ds vs) : Reps mg S H (ds.drop n) (vs.drop n) :=
  Reps.of_get (by rw [List.length_drop, List.length_drop, h.length]) fun i v d h1 h2 => by
    rw [List.getElem?_drop] at h1 h2
    obtain ⟨w, q1, q2⟩ := h.get h2
    rw [h1] at q1
    cases q1
    exact q2
theorem Reps.reverse {ds : List D} {vs : List V} (h : Reps mg S H ds vs) : Reps mg S H ds.reverse vs.reverse :=
  Reps.of_get (by rw [List.length_reverse, List.length_reverse, h.length]) fun i v d h1 h2 => by
    have hl := h.length
    have hi : i < ds.length := by
      have := (List.getElem?_eq_some_iff.mp h2).1
      rw [List.length_reverse] at this
      exact this
    rw [List.getElem?_reverse (by omega)] at h1
    rw [List.getElem?_reverse hi] at h2
    rw [hl] at h1
    obtain ⟨w, q1, q2⟩ := h.get h2
    rw [h1] at q1
    cases q1
    exact q2
theorem Reps.rep {ds : List D} {vs : List V} (h : Reps mg S H ds vs) : ∀ k : Nat, Reps mg S H (List.replicate k ds).flatten (List.replicate k vs).flatten
  | 0 => rfl
  | k + 1 => by
    rw [List.replicate_succ, List.replicate_succ, List.flatten_cons, List.flatten_cons]
    exact h.append (Reps.rep h k)
theorem Reps.cut {ds : List D} {vs : List V} (lo hi : Option Int) (h : Reps mg S H ds vs) : Reps mg S H (Den.cut ds lo hi) (cutV vs lo hi) := by
  unfold Den.cut cutV
  rw [h.length]
  exact (h.drop _).take _
theorem Reps.atI {ds : List D} {vs : List V} {j : Int} {d : D} (h : Reps mg S H ds vs) (e : atI ds j = some d) : ∃ v, L2.atI vs j = some v ∧ Rep mg S H d v := by
  unfold L2.atI at e ⊢
  rw [h.length]
  cases q : ixN ds.length j with
  | none => rw [q] at e; cases e
  | some m =>
    rw [q] at e
    obtain ⟨v, q1, q2⟩ := h.get (i := m) e
    exact ⟨v, q1, q2⟩
theorem Reps.vals : ∀ {ds : List D} {vs : List V}, Reps mg S H ds vs → RepOs mg S H (ds.map O.val) vs []
  | [], vs, h => ⟨h, rfl⟩
  | x :: xs, vs, h => by
    obtain ⟨v, r, h1, h2, h3⟩ := h
    exact ⟨v, r, [], [], h1, rfl, ⟨rfl, h2⟩, Reps.vals h3⟩
theorem RepOs.ofVals : ∀ {os : List O} {ds : List D} {vs : List V} {as : List Addr}, O.vals? os = some ds → RepOs mg S H os vs as → as = [] ∧ Reps mg S H ds vs
  | [], ds, vs, as, e, h => by
    cases e
    exact ⟨h.2, h.1⟩
  | .val d :: r, ds, vs, as, e, h => by
    obtain ⟨v, vr, bs, cs, h1, h2, h3, h4⟩ := h
    rw [O.vals?] at e
    cases q : O.vals? r with
    | none => rw [q] at e; cases e
    | some dr =>
      rw [q] at e
      cases e
      obtain ⟨z1, z2⟩ := RepOs.ofVals q h4
      obtain ⟨z3, z4⟩ := h3
      subst z1 z3 h2
      exact ⟨rfl, v, vr, h1, z4, z2⟩
  | .nd k xs :: r, ds, vs, as, e, h => by cases e
/-- the items of a node -/
theorem RepO.top {o : O} {v : V} {as : List Addr} {k : Nk} {ds : List D} (h : RepO mg S H o v as) (e : o.top = some (k, ds)) : ∃ a vs, v = .ref a ∧ k.At mg H a vs ∧ Reps mg S H ds vs := by
  match o, h, e with
  | .val (.at w), h, e => cases e
  | .val (.nd k' ds'), h, e =>
    cases e
    obtain ⟨_, a, vs, h1, h2, h3, h4⟩ := h
    exact ⟨a, vs, h1, h3, h4⟩
  | .nd k' os, h, e =>
    obtain ⟨a, vs, bs, h1, h2, h3, h4⟩ := h
    have e : (O.vals? os).map (fun ds => (k', ds)) = some (k, ds) := e
    cases q : O.vals? os with
    | none => rw [q] at e; cases e
    | some dr =>
      rw [q] at e
      cases e
      exact ⟨a, vs, h1, h3, (RepOs.ofVals q h4).2⟩
/-- a new node -/
theorem repO_new {k : Nk} {a : Addr} {ds : List D} {vs : List V} (h : Reps mg S H ds vs) (hk : k.At mg H a vs) : RepO mg S H (.nd k (ds.map O.val)) (.ref a) [a] :=
  ⟨a, vs, [], rfl, rfl, hk, h.vals⟩
theorem same_upd {p : Addr} {u : HO} (h : H p = none) : Same H (upd H p u) := fun b x e => by
  rw [upd_ne (ne_of_none e h)]
  exact e
/-! flat leaves need no care -/
mutual
theorem RepO.flat : ∀ {o : O} {v : V} {as : List Addr}, o.allFlat = true → RepO mg S H o v as → RepO mg S' H o v as
  | .val (.at w), v, as, _, h => h
  | .val (.nd k xs), v, as, e, h => by cases e
  | .nd k xs, v, as, e, h => by
    obtain ⟨a, vs, bs, h1, h2, h3, h4⟩ := h
    exact ⟨a, vs, bs, h1, h2, h3, RepOs.flat e h4⟩
theorem RepOs.flat : ∀ {os : List O} {vs : List V} {as : List Addr}, O.allFlats os = true → RepOs mg S H os vs as → RepOs mg S' H os vs as
  | [], vs, as, _, h => h
  | x :: xs, vs, as, e, h => by
    obtain ⟨v, r, bs, cs, h1, h2, h3, h4⟩ := h
    rw [O.allFlats, Bool.and_eq_true] at e
    exact ⟨v, r, bs, cs, h1, h2, RepO.flat e.1 h3, RepOs.flat e.2 h4⟩
end
/-! #### flat readings -/
theorem RepO.v {o : O} {v w : V} {as : List Addr} (h : RepO mg S H o v as) (e : o.v? = some w) : v = w := by
  match o, h, e with
  | .val (.at u), h, e => cases e; exact h.2
theorem RepO.int {o : O} {v : V} {i : Int} {as : List Addr} (h : RepO mg S H o v as) (e : o.int? = some i) : v = .int i := by
  match o, h, e with
  | .val (.at (.int u)), h, e => cases e; exact h.2
theorem RepO.bl {o : O} {v : V} {i : Bool} {as : List Addr} (h : RepO mg S H o v as) (e : o.bl? = some i) : v = .bl i := by
  match o, h, e with
  | .val (.at (.bl u)), h, e => cases e; exact h.2
theorem Reps.ints : ∀ {ds : List D} {vs : List V} {ns : List Int}, Reps mg S H ds vs → ints? ds = some ns → vs = ns.map V.int
  | [], vs, ns, h, e => by
    cases e
    exact h
  | .at (.int i) :: r, vs, ns, h, e => by
    obtain ⟨v, vr, h1, h2, h3⟩ := h
    rw [ints?] at e
    cases q : ints? r with
    | none => rw [q] at e; cases e
    | some nr =>
      rw [q] at e
      cases e
      have h2 : v = .int i := h2
      subst h1 h2
      rw [Reps.ints h3 q]
      rfl
  | .at .non :: r, vs, ns, h, e => by cases e
  | .at (.bl _) :: r, vs, ns, h, e => by cases e
  | .at (.str _) :: r, vs, ns, h, e => by cases e
  | .at (.byt _) :: r, vs, ns, h, e => by cases e
  | .at (.flt _) :: r, vs, ns, h, e => by cases e
  | .at (.ref _) :: r, vs, ns, h, e => by cases e
  | .at (.ty _) :: r, vs, ns, h, e => by cases e
  | .nd _ _ :: r, vs, ns, h, e => by cases e
theorem Reps.bls : ∀ {ds : List D} {vs : List V} {ns : List Bool}, Reps mg S H ds vs → bls? ds = some ns → vs = ns.map V.bl
  | [], vs, ns, h, e => by
    cases e
    exact h
  | .at (.bl i) :: r, vs, ns, h, e => by
    obtain ⟨v, vr, h1, h2, h3⟩ := h
    rw [bls?] at e
    cases q : bls? r with
    | none => rw [q] at e; cases e
    | some nr =>
      rw [q] at e
      cases e
      have h2 : v = .bl i := h2
      subst h1 h2
      rw [Reps.bls h3 q]
      rfl
  | .at .non :: r, vs, ns, h, e => by cases e
  | .at (.int _) :: r, vs, ns, h, e => by cases e
  | .at (.str _) :: r, vs, ns, h, e => by cases e
  | .at (.byt _) :: r, vs, ns, h, e => by cases e
  | .at (.flt _) :: r, vs, ns, h, e => by cases e
  | .at (.ref _) :: r, vs, ns, h, e => by cases e
  | .at (.ty _) :: r, vs, ns, h, e => by cases e
  | .nd _ _ :: r, vs, ns, h, e => by cases e
theorem Reps.flats : ∀ {ds : List D} {vs ns : List V}, Reps mg S H ds vs → flats? ds = some ns → vs = ns
  | [], vs, ns, h, e => by
    cases e
    exact h
  | .at i :: r, vs, ns, h, e => by
    obtain ⟨v, vr, h1, h2, h3⟩ := h
    rw [flats?] at e
    cases q : flats? r with
    | none => rw [q] at e; cases e
    | some nr =>
      rw [q] at e
      cases e
      have h2 : v = i := h2
      subst h1 h2
      rw [Reps.flats h3 q]
  | .nd _ _ :: r, vs, ns, h, e => by cases e
/-! data as the library's deep equality reads it -/
mutual
theorem Rep.py {K : PySem.W.Frag} : ∀ {d : D} {v : V} {p : PyData}, Rep mg S H d v → d.py = some p → Dp K H v p
  | .at .non, v, p, h, e => by cases e; cases (show v = _ from h); exact .non
  | .at (.bl b), v, p, h, e => by cases e; cases (show v = _ from h); exact .bl b
  | .at (.int b), v, p, h, e => by cases e; cases (show v = _ from h); exact .int b
  | .at (.str b), v, p, h, e => by cases e; cases (show v = _ from h); exact .str b
  | .at (.byt _), v, p, h, e => by cases e
  | .at (.flt _), v, p, h, e => by cases e
  | .at (.ref _), v, p, h, e => by cases e
  | .at (.ty _), v, p, h, e => by cases e
  | .nd .lst xs, v, p, h, e => by
    obtain ⟨a, vs, h1, h2, h3, h4⟩ := h
    rw [D.py] at e
    cases q : D.pys xs with
    | none => rw [q] at e; cases e
    | some ps =>
      rw [q] at e
      cases e
      subst h1
      exact .lst (SqL.of h3) (Reps.pys h4 q)
  | .nd .tup xs, v, p, h, e => by
    obtain ⟨a, vs, h1, h2, h3, h4⟩ := h
    rw [D.py] at e
    cases q : D.pys xs with
    | none => rw [q] at e; cases e
    | some ps =>
      rw [q] at e
      cases e
      subst h1
      exact .tup (SqT.of h3) (Reps.pys h4 q)
  | .nd (.ins _ _) xs, v, p, h, e => by cases e
  | .nd (.dk _) xs, v, p, h, e => by cases e
  | .nd (.dt _) xs, v, p, h, e => by cases e
theorem Reps.pys {K : PySem.W.Frag} : ∀ {ds : List D} {vs : List V} {ps : List PyData}, Reps mg S H ds vs → D.pys ds = some ps → DpAll K H vs ps
  | [], vs, ps, h, e => by cases e; cases (show vs = [] from h); exact .nil
  | x :: xs, vs, ps, h, e => by
    obtain ⟨v, r, h1, h2, h3⟩ := h
    rw [D.pys] at e
    cases q : x.py with
    | none => rw [q] at e; cases e
    | some p =>
      rw [q] at e
      cases q2 : D.pys xs with
      | none => rw [q2] at e; cases e
      | some pr =>
        rw [q2] at e
        cases e
        subst h1
        exact .cons (Rep.py h2 q) (Reps.pys h3 q2)
end
end
end Den

/-! Den2: expressions. -/
namespace Den
open PySem L2

section
variable (mg : Str → Option Value)
/-- what is asked so that an expression worth f may be run: f gives something, and behind it Q holds of any value that stands for it, all of it new (tV) or not (tB) -/
def tV (f : VE) : TE := fun σ H Q => ∃ (S : Addr → Prop) (t : Tau) (A : List Addr) (o : O), RepSl mg S H t σ A ∧ (∀ a, S a → H a ≠ none) ∧ f t = some o ∧
  ∀ v H' as, Same H H' → RepO mg (fun a => S a ∨ a ∈ as) H' o v as → as.Nodup → (∀ a ∈ as, H a = none) → Q v H'
def tBr (f : VE) : TE := fun σ H Q => ∃ (S : Addr → Prop) (t : Tau) (A : List Addr) (o : O), RepSl mg S H t σ A ∧ (∀ a, S a → H a ≠ none) ∧ f t = some o ∧
  ∀ v H' as, Same H H' → RepO mg S H' o v as → Q v H'
def tTs (f : BE) : TT := fun σ H Q => ∃ (S : Addr → Prop) (t : Tau) (A : List Addr) (b : Bool), RepSl mg S H t σ A ∧ (∀ a, S a → H a ≠ none) ∧ f t = some b ∧
  ∀ H', Same H H' → Q b H'
/-- arguments: the values, whether they keep off S -/
def tAr (fs : List AE) : TA := fun σ H Q => ∃ (S : Addr → Prop) (t : Tau) (A : List Addr) (q : List O × Bool), RepSl mg S H t σ A ∧ (∀ a, S a → H a ≠ none) ∧ aAll fs t = some q ∧
  ∀ vs H' as, Same H H' → RepOs mg (fun a => q.2 = true ∧ (S a ∨ a ∈ as)) H' q.1 vs as → as.Nodup → (∀ a ∈ as, H a = none) → Q vs H'
/-- arguments, each new -/
def tVs (fs : List VE) : TA := fun σ H Q => ∃ (S : Addr → Prop) (t : Tau) (A : List Addr) (os : List O), RepSl mg S H t σ A ∧ (∀ a, S a → H a ≠ none) ∧ vAll fs t = some os ∧
  ∀ vs H' as, Same H H' → RepOs mg (fun a => S a ∨ a ∈ as) H' os vs as → as.Nodup → (∀ a ∈ as, H a = none) → Q vs H'
/-- arguments, each read -/
def tBs (fs : List VE) : TA := fun σ H Q => ∃ (S : Addr → Prop) (t : Tau) (A : List Addr) (os : List O), RepSl mg S H t σ A ∧ (∀ a, S a → H a ≠ none) ∧ vAll fs t = some os ∧
  ∀ vs H' as, Same H H' → RepOs mg S H' os vs as → Q vs H'
end
abbrev EV (X : Cx) (e : Expr) (f : VE) : Prop := PE X e (tV X.mg f)
abbrev EB (X : Cx) (e : Expr) (f : VE) : Prop := PE X e (tBr X.mg f)
abbrev ET (X : Cx) (e : Expr) (f : BE) : Prop := PT X e (tTs X.mg f)
abbrev EW (X : Cx) (e : Expr) (f : BE) : Prop := PW X e (tTs X.mg f)

theorem pe_imp {X : Cx} {e : Expr} {t t' : TE} (h : PE X e t) (hi : ∀ σ H Q, t' σ H Q → t σ H Q) : PE X e t' := ⟨fun pins s σ H Q I q => h.run pins s σ H Q I (hi σ H Q q)⟩
theorem pt_imp {X : Cx} {e : Expr} {t t' : TT} (h : PT X e t) (hi : ∀ σ H Q, t' σ H Q → t σ H Q) : PT X e t' := ⟨fun pins s σ H Q I q => h.run pins s σ H Q I (hi σ H Q q)⟩
theorem pw_imp {X : Cx} {e : Expr} {t t' : TT} (h : PW X e t) (hi : ∀ σ H Q, t' σ H Q → t σ H Q) : PW X e t' := ⟨fun wh pins s σ H Q I q => h.run wh pins s σ H Q I (hi σ H Q q)⟩
theorem pa_imp {X : Cx} {e : List Expr} {t t' : TA} (h : PA X e t) (hi : ∀ σ H Q, t' σ H Q → t σ H Q) : PA X e t' := ⟨fun pos pins s σ H Q I q => h.run pos pins s σ H Q I (hi σ H Q q)⟩
theorem ps_imp {X : Cx} {e : Stmt} {t t' : TS} (h : PS X e t) (hi : ∀ D σ H, t' D σ H → t D σ H) : PS X e t' := ⟨fun pins s σ H D I q => h.run pins s σ H D I (hi D σ H q)⟩
theorem pss_imp {X : Cx} {e : List Stmt} {t t' : TS} (h : PSs X e t) (hi : ∀ D σ H, t' D σ H → t D σ H) : PSs X e t' := ⟨fun pins s σ H D I q => h.run pins s σ H D I (hi D σ H q)⟩

theorem bind_some {α β : Type} {x : Option α} {f : α → Option β} {b : β} (h : x.bind f = some b) : ∃ a, x = some a ∧ f a = some b := by
  cases x with
  | none => cases h
  | some a => exact ⟨a, rfl, h⟩
theorem map_some {α β : Type} {x : Option α} {f : α → β} {b : β} (h : x.map f = some b) : ∃ a, x = some a ∧ f a = b := by
  cases x with
  | none => cases h
  | some a => exact ⟨a, rfl, Option.some.inj h⟩
theorem ite_some {α : Type} {c : Prop} [Decidable c] {a b : α} (h : (if c then some a else none) = some b) : c ∧ a = b := by
  by_cases k : c
  · rw [if_pos k] at h; exact ⟨k, Option.some.inj h⟩
  · rw [if_neg k] at h; cases h
/-- S stays in the heap -/
theorem hS {S : Addr → Prop} {H H' : Hp} (h : ∀ a, S a → H a ≠ none) (e : Same H H') : ∀ a, S a → H' a ≠ none := fun a sa z => h a sa (e.free z)

section
variable {mg : Str → Option Value} {S S' : Addr → Prop} {H H' : Hp}
mutual
theorem Rep.keepOff : ∀ {d : D} {v : V}, Rep mg S H d v → Rep mg (fun a => S a ∨ H a = none) H d v
  | .at w, v, h => h
  | .nd k xs, v, h => by
    obtain ⟨a, vs, h1, h2, h3, h4⟩ := h
    refine ⟨a, vs, h1, fun z => ?_, h3, Reps.keepOff h4⟩
    rcases z with z | z
    · exact h2 z
    · obtain ⟨u, hu⟩ := h3.some
      rw [z] at hu
      cases hu
theorem Reps.keepOff : ∀ {ds : List D} {vs : List V}, Reps mg S H ds vs → Reps mg (fun a => S a ∨ H a = none) H ds vs
  | [], vs, h => h
  | x :: xs, vs, h => by
    obtain ⟨v, r, h1, h2, h3⟩ := h
    exact ⟨v, r, h1, Rep.keepOff h2, Reps.keepOff h3⟩
end
/-- what was there keeps off what is new -/
theorem off1 {S2 : Addr → Prop} (h2 : ∀ a, S2 a → S a ∨ H a = none) (hk : ∀ a o, ¬ S a → H a = some o → H' a = some o) {d : D} {v : V} (r : Rep mg S H d v) : Rep mg S2 H' d v :=
  r.keepOff.keep h2 fun a o z q => hk a o (fun s => z (.inl s)) q
theorem off {S2 : Addr → Prop} (h2 : ∀ a, S2 a → S a ∨ H a = none) (hk : ∀ a o, ¬ S a → H a = some o → H' a = some o) {d : List D} {v : List V} (r : Reps mg S H d v) : Reps mg S2 H' d v :=
  r.keepOff.keep h2 fun a o z q => hk a o (fun s => z (.inl s)) q
mutual
theorem RepO.offs {S2 : Addr → Prop} (h2 : ∀ a, S2 a → S a ∨ H a = none) (hk : Same H H') : ∀ {o : O} {v : V} {as : List Addr}, RepO mg S H o v as → RepO mg S2 H' o v as
  | .val d, v, as, h => ⟨h.1, off1 h2 (fun a o _ q => hk a o q) h.2⟩
  | .nd k xs, v, as, h => by
    obtain ⟨a, vs, bs, h1, h2', h3, h4⟩ := h
    exact ⟨a, vs, bs, h1, h2', h3.keep fun o q => hk a o q, RepOs.offs h2 hk h4⟩
theorem RepOs.offs {S2 : Addr → Prop} (h2 : ∀ a, S2 a → S a ∨ H a = none) (hk : Same H H') : ∀ {os : List O} {vs : List V} {as : List Addr}, RepOs mg S H os vs as → RepOs mg S2 H' os vs as
  | [], vs, as, h => h
  | x :: xs, vs, as, h => by
    obtain ⟨v, r, bs, cs, h1, h2', h3, h4⟩ := h
    exact ⟨v, r, bs, cs, h1, h2', RepO.offs h2 hk h3, RepOs.offs h2 hk h4⟩
end
theorem RepSl.offs {S2 : Addr → Prop} (h2 : ∀ a, S2 a → S a ∨ H a = none) (hk : Same H H') : ∀ {t : Tau} {σ : St} {as : List Addr}, RepSl mg S H t σ as → RepSl mg S2 H' t σ as
  | [], σ, as, h => h
  | none :: t, σ, as, h => by
    obtain ⟨x, r, h1, h2'⟩ := h
    exact ⟨x, r, h1, RepSl.offs h2 hk h2'⟩
  | some o :: t, σ, as, h => by
    obtain ⟨v, r, bs, cs, h1, h2', h3, h4⟩ := h
    exact ⟨v, r, bs, cs, h1, h2', h3.offs h2 hk, RepSl.offs h2 hk h4⟩
end
section
variable {X : Cx} {e a b c : Expr} {f fa fb fc g : VE} {pos : Pos}
variable {mg : Str → Option Value} {S : Addr → Prop} {H H' : Hp}
theorem RepSl.get : ∀ {t : Tau} {σ : St} {as : List Addr} {i : Nat} {o : O}, RepSl mg S H t σ as → t[i]? = some (some o) → ∃ v bs, σ[i]? = some (some v) ∧ RepO mg S H o v bs
  | [], σ, as, i, o, h, e => by simp at e
  | none :: t, σ, as, 0, o, h, e => by simp at e
  | none :: t, σ, as, i + 1, o, h, e => by
    obtain ⟨x, r, h1, h2⟩ := h
    subst h1
    obtain ⟨v, bs, q1, q2⟩ := RepSl.get (i := i) (o := o) h2 (by simpa using e)
    exact ⟨v, bs, by simpa using q1, q2⟩
  | some u :: t, σ, as, 0, o, h, e => by
    obtain ⟨v, r, bs, cs, h1, h2, h3, h4⟩ := h
    simp at e
    subst e h1
    exact ⟨v, bs, rfl, h3⟩
  | some u :: t, σ, as, i + 1, o, h, e => by
    obtain ⟨v, r, bs, cs, h1, h2, h3, h4⟩ := h
    subst h1
    obtain ⟨w, ds, q1, q2⟩ := RepSl.get (i := i) (o := o) h4 (by simpa using e)
    exact ⟨w, ds, by simpa using q1, q2⟩
theorem bVar_some {i : Nat} {t : Tau} {o : O} (h : bVar i t = some o) : t[i]? = some (some o) := by
  unfold bVar at h
  cases q : t[i]? with
  | none => rw [q] at h; cases h
  | some x =>
    rw [q] at h
    rw [show x = some o from h]
theorem eb_var {i : Nat} (h : PE X e (tVar i)) : EB X e (bVar i) := pe_imp h fun σ H Q ⟨S, t, A, o, r, s, hf, q⟩ => by
  obtain ⟨v, bs, h1, h2⟩ := r.get (bVar_some hf)
  exact ⟨v, h1, q v H bs (Same.refl H) h2⟩
theorem ev_c {v : V} (h : PE X e (tC v)) : EV X e (vC v) := pe_imp h fun σ H Q ⟨S, t, A, o, r, s, hf, q⟩ => by
  cases hf
  exact q v H [] (Same.refl H) ⟨rfl, rfl⟩ List.nodup_nil (fun _ z => nomatch z)
/-- a place of which the value is shared -/
theorem ev_of (h : EB X e f) : EV X e (vOf f) := pe_imp h fun σ H Q ⟨S, t, A, o, r, s, hf, q⟩ => by
  obtain ⟨o', h1, h2⟩ := bind_some hf
  obtain ⟨h3, h4⟩ := ite_some h2
  subst h4
  refine ⟨S, t, A, o', r, s, h1, fun v H' as e1 r1 => ?_⟩
  match o', h3, r1 with
  | .val d, _, r1 =>
    have z := r1.1
    subst z
    exact q v H' [] e1 ⟨rfl, r1.2.less fun a z => z.elim id fun z => nomatch z⟩ List.nodup_nil (fun _ z => nomatch z)
/-- a new thing handed over -/
theorem eb_fz (h : EV X e f) : EB X e (bFz f) := pe_imp h fun σ H Q ⟨S, t, A, o, r, s, hf, q⟩ => by
  obtain ⟨o', h1, h2⟩ := map_some hf
  subst h2
  exact ⟨S, t, A, o', r, s, h1, fun v H' as e1 r1 nd fr => q v H' [] e1 ⟨rfl, r1.toD (fun a z => .inl z) fun a ha sa => s a sa (fr a ha)⟩⟩
/-- two values, one behind the other -/
theorem two {σ : St} {R : V → V → Hp → Prop} (h : (∃ (S : Addr → Prop) (t : Tau) (A : List Addr) (x y : O), RepSl mg S H t σ A ∧ (∀ a, S a → H a ≠ none) ∧ fa t = some x ∧ fb t = some y ∧
    ∀ v w H2 as bs, Same H H2 → RepO mg S H2 x v as → RepO mg S H2 y w bs → R v w H2)) : tBr mg fa σ H fun v H1 => tBr mg fb σ H1 fun w H2 => R v w H2 := by
  obtain ⟨S, t, A, x, y, r, s, h1, h2, q⟩ := h
  exact ⟨S, t, A, x, r, s, h1, fun v H1 as e1 r1 => ⟨S, t, A, y, r.same e1, hS s e1, h2, fun w H2 bs e2 r2 => q v w H2 as bs (e1.trans e2) (r1.same e2) r2⟩⟩
/-- an operation on two values -/
def OpD (X : Cx) (f : Value → Value → Sem Value) (g : O → O → Option O) : Prop := ∃ r : R2, OpR X f r ∧ ∀ (S : Addr → Prop) (x y : O) (v w : V) (as bs : List Addr) (H : Hp) (Q : VK) (o : O),
  (∀ a, S a → H a ≠ none) → RepO X.mg S H x v as → RepO X.mg S H y w bs → g x y = some o →
  (∀ v' H' cs, Same H H' → RepO X.mg (fun a => S a ∨ a ∈ cs) H' o v' cs → cs.Nodup → (∀ c ∈ cs, H c = none) → Q v' H') → r v w H Q
theorem ev_v2 {h : O → O → Option O} {ex : Expr} {ff : Value → Value → Sem Value} (ho : OpD X ff h) (hp : ∀ r ta tb, OpR X ff r → PE X a ta → PE X b tb → PE X ex (tOp r ta tb)) (ha : EB X a fa) (hb : EB X b fb) : EV X ex (v2 h fa fb) := by
  obtain ⟨r, hr, hi⟩ := ho
  refine pe_imp (hp r _ _ hr ha hb) fun σ H Q ⟨S, t, A, o, rp, s, hf, q⟩ => ?_
  obtain ⟨x, h1, hf⟩ := bind_some hf
  obtain ⟨y, h2, hf⟩ := bind_some hf
  refine two ⟨S, t, A, x, y, rp, s, h1, h2, fun v w H2 as bs e r1 r2 => ?_⟩
  refine hi S x y v w as bs H2 Q o (hS s e) r1 r2 hf fun v' H' cs e' r' nd fr => ?_
  exact q v' H' cs (e.trans e') r' nd fun c hc => e.free (fr c hc)
theorem flat_ok {v : V} {Q : VK} {S : Addr → Prop} {H : Hp} (q : ∀ v' H' cs, Same H H' → RepO mg (fun a => S a ∨ a ∈ cs) H' (.val (.at v)) v' cs → cs.Nodup → (∀ c ∈ cs, H c = none) → Q v' H') : Q v H :=
  q v H [] (Same.refl H) ⟨rfl, rfl⟩ List.nodup_nil (fun _ z => nomatch z)
/-- a new node of shared items -/
theorem new_ok {k : Nk} {Q : VK} {S : Addr → Prop} {H : Hp} {ds : List D} {vs : List V} (hs : ∀ a, S a → H a ≠ none) (r : Reps mg S H ds vs) {p : Addr} {u : HO} (hp : H p = none) (hk : k.At mg (upd H p u) p vs)
    (q : ∀ v' H' cs, Same H H' → RepO mg (fun a => S a ∨ a ∈ cs) H' (.nd k (ds.map O.val)) v' cs → cs.Nodup → (∀ c ∈ cs, H c = none) → Q v' H') : Q (.ref p) (upd H p u) :=
  q (.ref p) (upd H p u) [p] (same_upd hp) (repO_new (off (fun a z => z.elim .inl fun z => .inr (by rw [List.mem_singleton.mp z]; exact hp)) (fun a o _ q => same_upd hp a o q) r) hk) (by simp) fun c hc => by
    have e : c = p := by simpa using hc
    rw [e]; exact hp
theorem opd_i2 {f : Value → Value → Sem Value} {C : Int → Int → Prop} {gg : Int → Int → Int} {h : Int → Int → Option O} (ho : OpR X f (rI C fun i j => .int (gg i j))) (hh : ∀ i j o, h i j = some o → C i j ∧ o = .int (gg i j)) : OpD X f (i2 h) := by
  refine ⟨_, ho, fun S x y v w as bs H Q o s r1 r2 e q => ?_⟩
  match x, y, r1, r2, e with
  | .val (.at (.int i)), .val (.at (.int j)), r1, r2, e =>
    obtain ⟨hc, rfl⟩ := hh i j o e
    exact ⟨i, j, r1.2, r2.2, hc, flat_ok q⟩
theorem opd_i2' {f : Value → Value → Sem Value} {gg : Int → Int → Int} {h : Int → Int → Option O} (ho : OpR X f (rI0 fun i j => .int (gg i j))) (hh : ∀ i j o, h i j = some o → o = .int (gg i j)) : OpD X f (i2 h) := by
  refine ⟨_, ho, fun S x y v w as bs H Q o s r1 r2 e q => ?_⟩
  match x, y, r1, r2, e with
  | .val (.at (.int i)), .val (.at (.int j)), r1, r2, e =>
    cases hh i j o e
    exact ⟨i, j, r1.2, r2.2, flat_ok q⟩
theorem opd_sub : OpD X (binaryOp .Sub) dSub := opd_i2' op_sub fun i j o e => (Option.some.inj e).symm
theorem opd_mod : OpD X (binaryOp .Mod) dMod := opd_i2 op_mod fun i j o e => by
  obtain ⟨h1, h2⟩ := ite_some e
  exact ⟨h1, h2.symm⟩
theorem opd_fdiv : OpD X (binaryOp .FloorDiv) dFdiv := opd_i2 op_fdivW fun i j o e => by
  obtain ⟨h1, h2⟩ := ite_some e
  exact ⟨h1, h2.symm⟩
theorem opd_pow : OpD X (binaryOp .Pow) dPow := opd_i2 op_pow fun i j o e => by
  obtain ⟨h1, h2⟩ := ite_some e
  exact ⟨h1, h2.symm⟩
theorem opd_shl : OpD X (binaryOp .LShift) dShl := opd_i2 op_shl fun i j o e => by
  obtain ⟨h1, h2⟩ := ite_some e
  exact ⟨h1, h2.symm⟩
theorem opd_shr : OpD X (binaryOp .RShift) dShr := opd_i2 op_shr fun i j o e => by
  obtain ⟨h1, h2⟩ := ite_some e
  exact ⟨h1, h2.symm⟩
theorem big_line {n : Nat} (h : n ≤ big) : n ≤ sizeLine := Nat.le_trans h (by decide)
theorem big_line' {n : Nat} (h : n < big) : n < sizeLine := Nat.lt_of_lt_of_le h (by decide)
theorem opd_add : OpD X (binaryOp .Add) dAdd := by
  refine ⟨_, op_add.or (op_cat.or op_catT), fun S x y v w as bs H Q o s r1 r2 e q => ?_⟩
  unfold dAdd at e
  split at e
  · cases e
    exact .inl ⟨_, _, r1.2, r2.2, flat_ok q⟩
  · split at e
    · rename_i xs ys e1 e2
      obtain ⟨hz, rfl⟩ := ite_some e
      obtain ⟨l, vs, rfl, k1, p1⟩ := r1.top e1
      obtain ⟨m, us, rfl, k2, p2⟩ := r2.top e2
      refine .inr (.inl ⟨l, m, vs, us, rfl, rfl, k1, k2, ?_, fun p hp => new_ok (k := .lst) s (p1.append p2) hp upd_same q⟩)
      rw [p1.length, p2.length]
      exact big_line hz
    · rename_i xs ys e1 e2
      obtain ⟨⟨hx, hy, hz⟩, rfl⟩ := ite_some e
      obtain ⟨l, vs, rfl, k1, p1⟩ := r1.top e1
      obtain ⟨m, us, rfl, k2, p2⟩ := r2.top e2
      refine .inr (.inr ⟨l, m, vs, us, rfl, rfl, SqT.of k1, SqT.of k2, fun z => ?_, ?_, ?_⟩)
      · subst z
        have := p1.length
        exact hx (List.eq_nil_of_length_eq_zero this.symm)
      · rw [p1.length, p2.length]
        exact big_line hz
      · have hy' : us ≠ [] := fun z => by
          subst z
          have := p2.length
          exact hy (List.eq_nil_of_length_eq_zero this.symm)
        first
          | exact ⟨fun z => absurd z hy', fun _ p hp => new_ok (k := .tup) s (p1.append p2) hp upd_same q⟩
          | exact fun p hp => new_ok (k := .tup) s (p1.append p2) hp upd_same q
    · cases e
theorem opd_mul : OpD X (binaryOp .Mult) dMul := by
  refine ⟨_, op_mulW.or op_rep, fun S x y v w as bs H Q o s r1 r2 e q => ?_⟩
  unfold dMul at e
  split at e
  · obtain ⟨hz, rfl⟩ := ite_some e
    exact .inl ⟨_, _, r1.2, r2.2, hz, flat_ok q⟩
  · split at e
    · rename_i xs e1
      obtain ⟨⟨h1, h2, hz⟩, rfl⟩ := ite_some e
      obtain ⟨l, vs, rfl, k1, p1⟩ := r1.top e1
      refine .inr ⟨l, _, vs, rfl, r2.2, k1, h1, h2, ?_, fun p hp => new_ok (k := .lst) s (p1.rep _) hp upd_same q⟩
      rw [p1.length]
      exact big_line hz
    · cases e
  · cases e
theorem opd_bin (op : Operator) : OpD X (binaryOp op) (dBin op) := by
  cases op with
  | Add => exact opd_add
  | Sub => exact opd_sub
  | Mult => exact opd_mul
  | Mod => exact opd_mod
  | FloorDiv => exact opd_fdiv
  | Pow => exact opd_pow
  | LShift => exact opd_shl
  | RShift => exact opd_shr
  | _ => exact ⟨fun _ _ _ _ => False, fun _ _ _ _ _ _ _ _ _ _ _ _ z => z.elim, fun S x y v w as bs H Q o s r1 r2 e q => by cases e⟩
theorem ev_bin {op : Operator} (ha : EB X a fa) (hb : EB X b fb) : EV X (.BinOp a op b pos) (vBin op fa fb) := ev_v2 (opd_bin op) (fun r ta tb h1 h2 h3 => pe_op h1 h2 h3) ha hb
theorem ev_neg (ha : EB X a fa) : EV X (.UnaryOp .USub a pos) (vNeg fa) := by
  refine pe_imp (pe_un un_neg ha) fun σ H Q ⟨S, t, A, o, rp, s, hf, q⟩ => ?_
  obtain ⟨x, h1, hf⟩ := bind_some hf
  refine ⟨S, t, A, x, rp, s, h1, fun v H' as e r => ?_⟩
  match x, hf, r with
  | .val (.at (.int i)), hf, r =>
    cases hf
    exact ⟨i, r.2, q _ H' [] e ⟨rfl, rfl⟩ List.nodup_nil (fun _ z => nomatch z)⟩

/-! ### comparisons -/
def CmD (X : Cx) (op : CmpOp) : Prop := ∃ r : R2, OpR X (compareOp op) r ∧ ∀ (S : Addr → Prop) (x y : O) (v w : V) (as bs : List Addr) (H : Hp) (Q : VK) (k : Bool),
  RepO X.mg S H x v as → RepO X.mg S H y w bs → dCmp op x y = some k → Q (.bl k) H → r v w H Q
theorem cmd_int {op : CmpOp} {gg : Int → Int → Bool} (ho : OpR X (compareOp op) (rI0 fun i j => .bl (gg i j))) (hd : dCmp op = c2 gg) : CmD X op := by
  refine ⟨_, ho, fun S x y v w as bs H Q k r1 r2 e q => ?_⟩
  rw [hd] at e
  match x, y, r1, r2, e with
  | .val (.at (.int i)), .val (.at (.int j)), r1, r2, e =>
    cases e
    exact ⟨i, j, r1.2, r2.2, q⟩
theorem dEq_some {x y : D} {k : Bool} (h : dEq x y = some k) : ∃ a b, x.py = some a ∧ y.py = some b ∧ SeqAt.shaped a = true ∧ SeqAt.shaped b = true ∧ k = PyData.eqv a b := by
  obtain ⟨a, h1, h⟩ := bind_some h
  obtain ⟨b, h2, h⟩ := bind_some h
  obtain ⟨⟨h3, h4⟩, h5⟩ := ite_some h
  exact ⟨a, b, h1, h2, h3, h4, h5.symm⟩
theorem Reps.keys {mg : Str → Option Value} {S : Addr → Prop} {H : Hp} : ∀ {ds : List D} {vs : List V} {k : List L2.Key}, Reps mg S H ds vs → keys? ds = some k → vs = k.map kV
  | [], vs, k, h, e => by
    cases e
    exact h
  | .at u :: r, vs, k, h, e => by
    obtain ⟨v, q, rfl, h1, h2⟩ := h
    obtain ⟨ky, e1, e⟩ := bind_some e
    obtain ⟨kr, e2, rfl⟩ := map_some e
    cases (show v = u from h1)
    rw [Reps.keys h2 e2, List.map_cons]
    congr 1
    exact vkey_eq e1
  | .nd _ _ :: r, vs, k, h, e => by cases e
where
  vkey_eq {u : V} {k : L2.Key} (h : vkey u = some k) : u = kV k := by
    unfold vkey at h
    split at h
    · cases h; rfl
    · cases h; rfl
    · cases h
/-- a dict asked by a key -/
theorem rep_dget {mg : Str → Option Value} {S : Addr → Prop} {H : Hp} {x y : O} {v w : V} {as bs : List Addr} {r : Option V} (r1 : RepO mg S H x v as) (r2 : RepO mg S H y w bs) (e : x.dget y = some r) : ∃ a, v = .ref a ∧ DGet H a w r ∧ ((∃ kvs, H a = some (.dK kvs)) ∨ ∃ kvs, H a = some (.dT kvs)) := by
  have r1 := r1.any
  have r2 := r2.any
  unfold O.dget at e
  split at e
  · rename_i kvs ds hd
    rw [hd] at r1
    obtain ⟨a, vs, rfl, _, hk, _⟩ := r1
    split at e
    · rename_i u hu
      rw [hu] at r2
      obtain ⟨k, e1, rfl⟩ := map_some e
      have : w = kV k := (show w = u from r2).trans (Reps.keys.vkey_eq e1)
      exact ⟨a, rfl, .inl ⟨kvs, k, .inl hk.2, this, rfl⟩, .inl ⟨kvs, hk.2⟩⟩
    · cases e
  · rename_i kvs ds hd
    rw [hd] at r1
    obtain ⟨a, vs, rfl, _, hk, _⟩ := r1
    split at e
    · rename_i es hu
      rw [hu] at r2
      obtain ⟨k, e1, rfl⟩ := map_some e
      obtain ⟨b, us, rfl, _, hb, rs⟩ := r2
      have hb : H b = some (.tup us) := hb
      rw [rs.keys e1] at hb
      exact ⟨a, rfl, .inr ⟨kvs, k, b, .inl hk.2, rfl, hb, rfl⟩, .inr ⟨kvs, hk.2⟩⟩
    · cases e
  · cases e
theorem op_din {X : Cx} (hu : X.A.units + 64 < cLine) : OpR X (compareOp .In) (fun x y H Q => ∃ a o, y = .ref a ∧ DGet H a x o ∧ Q (.bl o.isSome) H) := by
  intro pins s σ H x y v u Q I rx ry ⟨a, o, ey, g, q⟩
  subst ey
  cases (show u = Value.ref a from ry)
  exact d_in (by omega) I g rx fun s1 I1 => ⟨.bl o.isSome, H, I1, rfl, q⟩
theorem op_dnin {X : Cx} (hu : X.A.units + 64 < cLine) : OpR X (compareOp .NotIn) (fun x y H Q => ∃ a o, y = .ref a ∧ DGet H a x o ∧ Q (.bl (!o.isSome)) H) := by
  intro pins s σ H x y v u Q I rx ry ⟨a, o, ey, g, q⟩
  subst ey
  cases (show u = Value.ref a from ry)
  exact d_notIn (by omega) I g rx fun s1 I1 => ⟨.bl (!o.isSome), H, I1, rfl, q⟩
theorem rep_in {mg : Str → Option Value} {K : PySem.W.Frag} {S : Addr → Prop} {H : Hp} {x y : O} {v w : V} {as bs : List Addr} {k : Bool} (r1 : RepO mg S H x v as) (r2 : RepO mg S H y w bs) (e : dIn x y = some k) :
    (∃ p xs, w = .ref p ∧ (SqL K H p xs ∨ SqT K H p xs) ∧ flatV v = true ∧ xs.all flatV = true ∧ k = inV v xs) ∨ ∃ a o, w = .ref a ∧ DGet H a v o ∧ k = o.isSome := by
  unfold dIn at e
  split at e
  · obtain ⟨r, h1, rfl⟩ := map_some e
    obtain ⟨a, h2, h3, _⟩ := rep_dget r2 r1 h1
    exact .inr ⟨a, r, h2, h3, rfl⟩
  · left
    have r2' := r2.any
    split at e
    · rename_i u
      have ev : v = u := r1.2
      subst ev
      split at e
      · rename_i ds hd
        rw [hd] at r2'
        obtain ⟨a, vs, h1, h2, h3, h4⟩ := r2'
        obtain ⟨us, h5, e⟩ := bind_some e
        obtain ⟨⟨h6, h7⟩, h8⟩ := ite_some e
        have h9 := h4.flats h5
        subst h9
        exact ⟨a, vs, h1, .inl (SqL.of h3), h6, h7, h8.symm⟩
      · rename_i ds hd
        rw [hd] at r2'
        obtain ⟨a, vs, h1, h2, h3, h4⟩ := r2'
        obtain ⟨us, h5, e⟩ := bind_some e
        obtain ⟨⟨h6, h7⟩, h8⟩ := ite_some e
        have h9 := h4.flats h5
        subst h9
        exact ⟨a, vs, h1, .inr (SqT.of h3), h6, h7, h8.symm⟩
      · cases e
    · cases e
theorem rep_is {mg : Str → Option Value} {S : Addr → Prop} {H : Hp} {x y : O} {v w : V} {as bs : List Addr} {k : Bool} (r1 : RepO mg S H x v as) (r2 : RepO mg S H y w bs) (e : dIs x y = some k) : ∃ a b : Bool, v = .bl a ∧ w = .bl b ∧ k = decide (a = b) := by
  unfold dIs at e
  split at e
  · exact ⟨_, _, r1.2, r2.2, (Option.some.inj e).symm⟩
  · cases e
theorem cmd (hu : X.A.units + 64 < cLine) (op : CmpOp) : CmD X op := by
  cases op with
  | Lt => exact cmd_int op_lt rfl
  | LtE => exact cmd_int op_le rfl
  | Gt => exact cmd_int op_gt rfl
  | GtE => exact cmd_int op_ge rfl
  | Eq =>
    refine ⟨_, op_eqD hu, fun S x y v w as bs H Q k r1 r2 e q => ?_⟩
    obtain ⟨p, p', h1, h2, h3, h4, h5⟩ := dEq_some e
    subst h5
    exact ⟨p, p', r1.any.py h1, r2.any.py h2, h3, h4, q⟩
  | NotEq =>
    refine ⟨_, op_neD hu, fun S x y v w as bs H Q k r1 r2 e q => ?_⟩
    obtain ⟨k', e, e'⟩ := map_some e
    obtain ⟨p, p', h1, h2, h3, h4, h5⟩ := dEq_some e
    subst h5 e'
    exact ⟨p, p', r1.any.py h1, r2.any.py h2, h3, h4, q⟩
  | In =>
    refine ⟨_, op_in_seq.or (op_din hu), fun S x y v w as bs H Q k r1 r2 e q => ?_⟩
    rcases rep_in (K := X.K) r1 r2 e with ⟨p, xs, h1, h2, h3, h4, h5⟩ | ⟨a, o, h1, h2, h3⟩
    · subst h5
      exact .inl ⟨p, xs, h1, h2, h3, h4, q⟩
    · subst h3
      exact .inr ⟨a, o, h1, h2, q⟩
  | NotIn =>
    refine ⟨_, op_notIn_seq.or (op_dnin hu), fun S x y v w as bs H Q k r1 r2 e q => ?_⟩
    obtain ⟨k', e, e'⟩ := map_some e
    rcases rep_in (K := X.K) r1 r2 e with ⟨p, xs, h1, h2, h3, h4, h5⟩ | ⟨a, o, h1, h2, h3⟩
    · subst h5 e'
      exact .inl ⟨p, xs, h1, h2, h3, h4, q⟩
    · subst h3 e'
      exact .inr ⟨a, o, h1, h2, q⟩
  | Is =>
    refine ⟨_, op_isBl, fun S x y v w as bs H Q k r1 r2 e q => ?_⟩
    obtain ⟨a, b, h1, h2, h3⟩ := rep_is r1 r2 e
    subst h3
    exact ⟨a, b, h1, h2, q⟩
  | IsNot =>
    refine ⟨_, op_notBl, fun S x y v w as bs H Q k r1 r2 e q => ?_⟩
    obtain ⟨k', e, e'⟩ := map_some e
    obtain ⟨a, b, h1, h2, h3⟩ := rep_is r1 r2 e
    subst h3 e'
    exact ⟨a, b, h1, h2, q⟩
theorem vCmp_some {op : CmpOp} {t : Tau} {o : O} (h : vCmp op fa fb t = some o) : ∃ x y k, fa t = some x ∧ fb t = some y ∧ dCmp op x y = some k ∧ o = .bl k := by
  obtain ⟨x, h1, h⟩ := bind_some h
  obtain ⟨y, h2, h⟩ := bind_some h
  obtain ⟨k, h3, h⟩ := map_some h
  exact ⟨x, y, k, h1, h2, h3, h.symm⟩
theorem ev_cmp (hu : X.A.units + 64 < cLine) {op : CmpOp} (ha : EB X a fa) (hb : EB X b fb) (hm : behindInMarks op b = false) : EV X (.Compare a [op] [b] pos) (vCmp op fa fb) := by
  obtain ⟨r, hr, hi⟩ := cmd hu op
  refine pe_imp (pe_cmpR hr ha hb hm) fun σ H Q ⟨S, t, A, o, rp, s, hf, q⟩ => ?_
  obtain ⟨x, y, k, h1, h2, h3, rfl⟩ := vCmp_some hf
  exact two ⟨S, t, A, x, y, rp, s, h1, h2, fun v w H2 as bs e r1 r2 => hi S x y v w as bs H2 Q k r1 r2 h3 (q _ H2 [] e ⟨rfl, rfl⟩ List.nodup_nil (fun _ z => nomatch z))⟩
theorem et_cmp (hu : X.A.units + 64 < cLine) {op : CmpOp} (ha : EB X a fa) (hb : EB X b fb) (hm : behindInMarks op b = false) : ET X (.Compare a [op] [b] pos) (bT (vCmp op fa fb)) := by
  obtain ⟨r, hr, hi⟩ := cmd hu op
  refine pt_imp (pt_cmpR hr ha hb hm) fun σ H Q ⟨S, t, A, o, rp, s, hf, q⟩ => ?_
  obtain ⟨z, hf, hz⟩ := bind_some hf
  obtain ⟨x, y, k, h1, h2, h3, rfl⟩ := vCmp_some hf
  cases hz
  exact two ⟨S, t, A, x, y, rp, s, h1, h2, fun v w H2 as bs e r1 r2 => hi S x y v w as bs H2 _ o r1 r2 h3 ⟨o, rfl, q H2 e⟩⟩
theorem chain_go (hu : X.A.units + 64 < cLine) {op op' : CmpOp} {r r' : R2} {σ : St} {H : Hp} {Q : VK} {S : Addr → Prop} {t : Tau} {A : List Addr} {o : O}
    (hi : ∀ (S : Addr → Prop) (x y : O) (v w : V) (as bs : List Addr) (H : Hp) (Q : VK) (k : Bool), RepO X.mg S H x v as → RepO X.mg S H y w bs → dCmp op x y = some k → Q (.bl k) H → r v w H Q)
    (hi' : ∀ (S : Addr → Prop) (x y : O) (v w : V) (as bs : List Addr) (H : Hp) (Q : VK) (k : Bool), RepO X.mg S H x v as → RepO X.mg S H y w bs → dCmp op' x y = some k → Q (.bl k) H → r' v w H Q)
    (rp : RepSl X.mg S H t σ A) (s : ∀ a, S a → H a ≠ none) (hf : vChain op op' fa fb fc t = some o) (q : ∀ k H', o = .bl k → Same H H' → Q (.bl k) H') :
    tChain r r' (tBr X.mg fa) (tBr X.mg fb) (tBr X.mg fc) σ H Q := by
  obtain ⟨x, h1, hf⟩ := bind_some hf
  obtain ⟨y, h2, hf⟩ := bind_some hf
  obtain ⟨k, h3, hf⟩ := bind_some hf
  refine two ⟨S, t, A, x, y, rp, s, h1, h2, fun v w H2 as bs e r1 r2 => hi S x y v w as bs H2 _ k r1 r2 h3 ⟨k, rfl, ?_⟩⟩
  cases k with
  | true =>
    rw [if_pos rfl] at hf
    obtain ⟨z, h4, hf⟩ := bind_some hf
    obtain ⟨k2, h5, rfl⟩ := map_some hf
    rw [if_pos rfl]
    refine ⟨S, t, A, z, rp.same e, hS s e, h4, fun u H3 cs e3 r3 => ?_⟩
    exact hi' S y z w u bs cs H3 _ k2 (r2.same e3) r3 h5 (q k2 H3 rfl (e.trans e3))
  | false =>
    rw [if_neg (by decide)] at hf
    cases hf
    rw [if_neg (by decide)]
    exact q false H2 rfl e
theorem ev_chain (hu : X.A.units + 64 < cLine) {op op' : CmpOp} (ha : EB X a fa) (hb : EB X b fb) (hc : EB X c fc) (hm : ∀ (r r' : R2), OpR X (compareOp op) r → OpR X (compareOp op') r' → PE X (.Compare a [op, op'] [b, c] pos) (tChain r r' (tBr X.mg fa) (tBr X.mg fb) (tBr X.mg fc))) :
    EV X (.Compare a [op, op'] [b, c] pos) (vChain op op' fa fb fc) := by
  obtain ⟨r, hr, hi⟩ := cmd hu op
  obtain ⟨r', hr', hi'⟩ := cmd hu op'
  refine pe_imp (hm r r' hr hr') fun σ H Q ⟨S, t, A, o, rp, s, hf, q⟩ => ?_
  exact chain_go hu hi hi' rp s hf fun k H' e e' => by subst e; exact q _ H' [] e' ⟨rfl, rfl⟩ List.nodup_nil (fun _ z => nomatch z)
theorem et_chain (hu : X.A.units + 64 < cLine) {op op' : CmpOp} (hm : ∀ (r r' : R2), OpR X (compareOp op) r → OpR X (compareOp op') r' → PT X (.Compare a [op, op'] [b, c] pos) (tTest (tChain r r' (tBr X.mg fa) (tBr X.mg fb) (tBr X.mg fc)))) :
    ET X (.Compare a [op, op'] [b, c] pos) (bT (vChain op op' fa fb fc)) := by
  obtain ⟨r, hr, hi⟩ := cmd hu op
  obtain ⟨r', hr', hi'⟩ := cmd hu op'
  refine pt_imp (hm r r' hr hr') fun σ H Q ⟨S, t, A, o, rp, s, hf, q⟩ => ?_
  obtain ⟨z, hf, hz⟩ := bind_some hf
  exact chain_go hu hi hi' rp s hf fun k H' e e' => by subst e; cases hz; exact ⟨o, rfl, q H' e'⟩

/-! ### truth -/
theorem bl_some {x : O} {k : Bool} (h : x.bl? = some k) : x = .bl k := by
  match x, h with
  | .val (.at (.bl u)), h => cases h; rfl
theorem ev_and {rest : List Expr} (ha : EB X a fa) (hb : EB X (.BoolOp .And (b :: rest) pos) fb) : EB X (.BoolOp .And (a :: b :: rest) pos) (vAnd fa fb) := by
  refine pe_imp (pe_and ha hb) fun σ H Q ⟨S, t, A, o, rp, s, hf, q⟩ => ?_
  obtain ⟨x, h1, hf⟩ := bind_some hf
  obtain ⟨k, h2, hf⟩ := bind_some hf
  refine ⟨S, t, A, x, rp, s, h1, fun v H' as e r => ⟨k, r.bl h2, ?_⟩⟩
  cases k with
  | true => exact ⟨S, t, A, o, rp.same e, hS s e, hf, fun w H2 bs e2 r2 => q w H2 bs (e.trans e2) r2⟩
  | false =>
    rw [if_neg (by decide)] at hf
    cases hf
    exact q _ H' [] e ⟨rfl, rfl⟩
theorem ev_or {rest : List Expr} (ha : EB X a fa) (hb : EB X (.BoolOp .Or (b :: rest) pos) fb) : EB X (.BoolOp .Or (a :: b :: rest) pos) (vOr fa fb) := by
  refine pe_imp (pe_or ha hb) fun σ H Q ⟨S, t, A, o, rp, s, hf, q⟩ => ?_
  obtain ⟨x, h1, hf⟩ := bind_some hf
  obtain ⟨k, h2, hf⟩ := bind_some hf
  refine ⟨S, t, A, x, rp, s, h1, fun v H' as e r => ⟨k, r.bl h2, ?_⟩⟩
  cases k with
  | false => exact ⟨S, t, A, o, rp.same e, hS s e, hf, fun w H2 bs e2 r2 => q w H2 bs (e.trans e2) r2⟩
  | true =>
    rw [if_pos rfl] at hf
    cases hf
    exact q _ H' [] e ⟨rfl, rfl⟩
theorem eb_one {op : BoolOp} (h : EB X a fa) : EB X (.BoolOp op [a] pos) fa := pe_one h
theorem ev_not (ha : EB X a fa) : EV X (.UnaryOp .Not a pos) (vNot fa) := by
  refine pe_imp (pe_not ha) fun σ H Q ⟨S, t, A, o, rp, s, hf, q⟩ => ?_
  obtain ⟨x, h1, hf⟩ := bind_some hf
  obtain ⟨k, h2, hf⟩ := map_some hf
  subst hf
  exact ⟨S, t, A, x, rp, s, h1, fun v H' as e r => ⟨k, r.bl h2, q _ H' [] e ⟨rfl, rfl⟩ List.nodup_nil (fun _ z => nomatch z)⟩⟩
theorem et_val (h : EB X a fa) (he : ∀ whole, isTrue a X.env whole = (do let v ← whole; standAt a.pos; holding [v] (truthy v))) : ET X a (bT fa) := by
  refine pt_imp (pt_val h he) fun σ H Q ⟨S, t, A, o, rp, s, hf, q⟩ => ?_
  obtain ⟨x, h1, hf⟩ := bind_some hf
  exact ⟨S, t, A, x, rp, s, h1, fun v H' as e r => ⟨o, r.bl hf, q H' e⟩⟩
variable {ba bb : BE}
theorem et_not (ha : ET X a ba) : ET X (.UnaryOp .Not a pos) (bNot ba) := by
  refine pt_imp (pt_not ha) fun σ H Q ⟨S, t, A, o, rp, s, hf, q⟩ => ?_
  obtain ⟨k, h1, hf⟩ := map_some hf
  subst hf
  exact ⟨S, t, A, k, rp, s, h1, fun H' e => q H' e⟩
theorem ew_and {rest : List Expr} (ha : ET X a ba) (hb : EW X (.BoolOp .And (b :: rest) pos) bb) : EW X (.BoolOp .And (a :: b :: rest) pos) (bAnd ba bb) := by
  refine pw_imp (pw_and ha hb) fun σ H Q ⟨S, t, A, o, rp, s, hf, q⟩ => ?_
  obtain ⟨k, h1, hf⟩ := bind_some hf
  refine ⟨S, t, A, k, rp, s, h1, fun H' e => ?_⟩
  cases k with
  | true => exact ⟨S, t, A, o, rp.same e, hS s e, hf, fun H2 e2 => q H2 (e.trans e2)⟩
  | false =>
    rw [if_neg (by decide)] at hf
    cases hf
    exact q H' e
theorem ew_or {rest : List Expr} (ha : ET X a ba) (hb : EW X (.BoolOp .Or (b :: rest) pos) bb) : EW X (.BoolOp .Or (a :: b :: rest) pos) (bOr ba bb) := by
  refine pw_imp (pw_or ha hb) fun σ H Q ⟨S, t, A, o, rp, s, hf, q⟩ => ?_
  obtain ⟨k, h1, hf⟩ := bind_some hf
  refine ⟨S, t, A, k, rp, s, h1, fun H' e => ?_⟩
  cases k with
  | false => exact ⟨S, t, A, o, rp.same e, hS s e, hf, fun H2 e2 => q H2 (e.trans e2)⟩
  | true =>
    rw [if_pos rfl] at hf
    cases hf
    exact q H' e
theorem ew_and1 (ha : ET X a ba) : EW X (.BoolOp .And [a] pos) ba := pw_and1 ha
theorem ew_or1 (ha : ET X a ba) : EW X (.BoolOp .Or [a] pos) ba := pw_or1 ha
theorem ev_if (hc : ET X c ba) (ha : EV X a fa) (hb : EV X b fb) : EV X (.IfExp c a b pos) (vIf ba fa fb) := by
  refine pe_imp (pe_ifExp hc ha hb) fun σ H Q ⟨S, t, A, o, rp, s, hf, q⟩ => ?_
  obtain ⟨k, h1, hf⟩ := bind_some hf
  refine ⟨S, t, A, k, rp, s, h1, fun H' e => ?_⟩
  cases k with
  | true =>
    rw [if_pos rfl] at hf ⊢
    exact ⟨S, t, A, o, rp.same e, hS s e, hf, fun v H2 as e2 r2 nd fr => q v H2 as (e.trans e2) r2 nd fun z hz => e.free (fr z hz)⟩
  | false =>
    rw [if_neg (by decide)] at hf ⊢
    exact ⟨S, t, A, o, rp.same e, hS s e, hf, fun v H2 as e2 r2 nd fr => q v H2 as (e.trans e2) r2 nd fun z hz => e.free (fr z hz)⟩
end
end Den

/-! Den3: places, displays, built-in calls, calls, walks, comprehensions. -/
namespace Den
open PySem L2
section
variable {X : Cx} {e a b c : Expr} {es : List Expr} {f fa fb fc g : VE} {pos : Pos}
variable {mg : Str → Option Value} {S S' : Addr → Prop} {H H' : Hp}

/-! ### places -/
theorem RepOs.length : ∀ {os : List O} {vs : List V} {as : List Addr}, RepOs mg S H os vs as → vs.length = os.length
  | [], vs, as, h => by rw [h.1]; rfl
  | x :: xs, vs, as, h => by
    obtain ⟨v, r, bs, cs, h1, h2, h3, h4⟩ := h
    rw [h1, List.length_cons, List.length_cons, RepOs.length h4]
theorem RepOs.get : ∀ {os : List O} {vs : List V} {as : List Addr} {i : Nat} {o : O}, RepOs mg S H os vs as → os[i]? = some o → ∃ v bs, vs[i]? = some v ∧ RepO mg S H o v bs
  | [], vs, as, i, o, h, e => by simp at e
  | x :: xs, vs, as, 0, o, h, e => by
    obtain ⟨v, r, bs, cs, h1, h2, h3, h4⟩ := h
    simp at e
    subst e h1
    exact ⟨v, bs, rfl, h3⟩
  | x :: xs, vs, as, i + 1, o, h, e => by
    obtain ⟨v, r, bs, cs, h1, h2, h3, h4⟩ := h
    subst h1
    obtain ⟨w, ds, q1, q2⟩ := RepOs.get (i := i) (o := o) h4 (by simpa using e)
    exact ⟨w, ds, by simpa using q1, q2⟩
theorem RepOs.atI {os : List O} {vs : List V} {as : List Addr} {j : Int} {o : O} (h : RepOs mg S H os vs as) (e : atI os j = some o) : ∃ v bs, L2.atI vs j = some v ∧ RepO mg S H o v bs := by
  unfold L2.atI at e ⊢
  rw [h.length]
  cases q : ixN os.length j with
  | none => rw [q] at e; cases e
  | some m =>
    rw [q] at e
    obtain ⟨v, bs, q1, q2⟩ := h.get (i := m) e
    exact ⟨v, bs, q1, q2⟩
theorem RepO.child {x o : O} {v : V} {as : List Addr} {j : Int} {K : PySem.W.Frag} (r : RepO mg S H x v as) (e : x.child j = some o) : ∃ p vs w bs, v = .ref p ∧ (SqL K H p vs ∨ SqT K H p vs) ∧ L2.atI vs j = some w ∧ RepO mg S H o w bs := by
  unfold O.child at e
  split at e
  · obtain ⟨_, p, vs, h1, h2, h3, h4⟩ := r
    obtain ⟨d, h5, rfl⟩ := map_some e
    obtain ⟨w, h6, h7⟩ := h4.atI h5
    exact ⟨p, vs, w, [], h1, .inl (SqL.of h3), h6, rfl, h7⟩
  · obtain ⟨_, p, vs, h1, h2, h3, h4⟩ := r
    obtain ⟨d, h5, rfl⟩ := map_some e
    obtain ⟨w, h6, h7⟩ := h4.atI h5
    exact ⟨p, vs, w, [], h1, .inr (SqT.of h3), h6, rfl, h7⟩
  · obtain ⟨p, vs, bs, h1, h2, h3, h4⟩ := r
    obtain ⟨w, cs, h6, h7⟩ := h4.atI e
    exact ⟨p, vs, w, cs, h1, .inl (SqL.of h3), h6, h7⟩
  · obtain ⟨p, vs, bs, h1, h2, h3, h4⟩ := r
    obtain ⟨w, cs, h6, h7⟩ := h4.atI e
    exact ⟨p, vs, w, cs, h1, .inr (SqT.of h3), h6, h7⟩
  · cases e
theorem pe_or {t t' : TE} (h : PE X e t) (h' : PE X e t') : PE X e (fun σ H Q => t σ H Q ∨ t' σ H Q) := ⟨fun pins s σ H Q I q => q.elim (h.run pins s σ H Q I) (h'.run pins s σ H Q I)⟩
theorem eb_ix (hu : X.A.units + 64 < cLine) (ha : EB X a fa) (hb : EB X b fb) (hs : PlainIx b) (hn : NoSl b) : EB X (.Subscript a b pos) (bIx fa fb) := by
  refine pe_imp (pe_or (pe_ix (ix_list.or ix_tup) ha hb hs) (pe_dget (by omega) ha hb hn)) fun σ H Q ⟨S, t, A, o, rp, s, hf, q⟩ => ?_
  obtain ⟨x, h1, hf⟩ := bind_some hf
  obtain ⟨y, h2, hf⟩ := bind_some hf
  unfold dIx at hf
  split at hf
  · obtain ⟨r, h3, hf⟩ := bind_some hf
    obtain ⟨u, rfl, rfl⟩ := map_some hf
    refine .inr (two ⟨S, t, A, x, y, rp, s, h1, h2, fun v w H2 as bs e r1 r2 => ?_⟩)
    obtain ⟨l, rfl, g, _⟩ := rep_dget r1 r2 h3
    exact ⟨l, u, rfl, g, q u H2 [] e ⟨rfl, rfl⟩⟩
  · refine .inl (two ⟨S, t, A, x, y, rp, s, h1, h2, fun v w H2 as bs e r1 r2 => ?_⟩)
    split at hf
    · rename_i j
      obtain ⟨p, vs, u, cs, rfl, h3, h4, h5⟩ := r1.child (K := X.K) hf
      rcases h3 with h3 | h3
      · exact .inl ⟨p, vs, j, u, rfl, r2.2, h3, h4, q u H2 cs e h5⟩
      · exact .inr ⟨p, vs, j, u, rfl, r2.2, h3, h4, q u H2 cs e h5⟩
    · cases hf
/-- d.get(k, z) -/
theorem ev_get {apos cpos : Pos} (hu : X.A.units + 64 < cLine) (ha : EB X a fa) (hb : EB X b fb) (hc : EB X c fc) (m : M2 X a "get" apos b c cpos) : EV X (.Call (.Attribute a "get" apos) [b, c] [] cpos) (vGet fa fb fc) := by
  refine pe_imp (pe_dget2 (by omega) ha hb hc m) fun σ H Q ⟨S, t, A, o, rp, s, hf, q⟩ => ?_
  obtain ⟨x, h1, hf⟩ := bind_some hf
  obtain ⟨y, h2, hf⟩ := bind_some hf
  obtain ⟨z, h3, hf⟩ := bind_some hf
  obtain ⟨zv, h4, hf⟩ := bind_some hf
  obtain ⟨r, h5, rfl⟩ := map_some hf
  refine ⟨S, t, A, x, rp, s, h1, fun v H1 as e1 r1 => ?_⟩
  have hd : ∃ a, v = .ref a ∧ ((∃ kvs, H1 a = some (.dK kvs)) ∨ ∃ kvs, H1 a = some (.dT kvs)) := by
    have r1 := r1.any
    unfold O.dget at h5
    split at h5
    · rename_i kvs ds hd
      rw [hd] at r1
      obtain ⟨a, vs, rfl, _, hk, _⟩ := r1
      exact ⟨a, rfl, .inl ⟨kvs, hk.2⟩⟩
    · rename_i kvs ds hd
      rw [hd] at r1
      obtain ⟨a, vs, rfl, _, hk, _⟩ := r1
      exact ⟨a, rfl, .inr ⟨kvs, hk.2⟩⟩
    · cases h5
  obtain ⟨l, rfl, hl⟩ := hd
  refine ⟨l, rfl, hl.elim (fun ⟨k, z⟩ => .inl ⟨k, .inl z⟩) (fun ⟨k, z⟩ => .inr ⟨k, .inl z⟩), ?_⟩
  refine ⟨S, t, A, y, rp.same e1, hS s e1, h2, fun w H2 bs e2 r2 => ⟨S, t, A, z, rp.same (e1.trans e2), hS s (e1.trans e2), h3, fun u H3 cs e3 r3 => ?_⟩⟩
  obtain ⟨l', e4, g, _⟩ := rep_dget ((r1.same e2).same e3) (r2.same e3) h5
  cases e4
  refine ⟨r, g, ?_⟩
  rw [r3.v h4]
  exact q _ H3 [] ((e1.trans e2).trans e3) ⟨rfl, rfl⟩ List.nodup_nil (fun _ z => nomatch z)

/-! ### slices -/
theorem po_of {oe : Option Expr} {of : Option VE} (h : (oe = none ∧ of = none) ∨ ∃ e f, oe = some e ∧ of = some f ∧ EB X e f) :
    PO X oe (fun σ H Q => ∃ (S : Addr → Prop) (t : Tau) (A : List Addr) (i : Option Int), RepSl X.mg S H t σ A ∧ (∀ a, S a → H a ≠ none) ∧ opI of t = some i ∧ ∀ H', Same H H' → Q i H') := by
  rcases h with ⟨rfl, rfl⟩ | ⟨e, f, rfl, rfl, h⟩
  · refine ⟨fun pins s σ H Q I ⟨S, t, A, i, rp, hs, hf, q⟩ => ?_⟩
    cases hf
    exact po_none.run pins s σ H Q I (q H (Same.refl H))
  · refine ⟨fun pins s σ H Q I ⟨S, t, A, i, rp, hs, hf, q⟩ => ?_⟩
    obtain ⟨x, h1, hf⟩ := bind_some hf
    obtain ⟨j, h2, rfl⟩ := map_some hf
    exact (po_some h).run pins s σ H Q I ⟨S, t, A, x, rp, hs, h1, fun v H' as e r => ⟨j, r.int h2, q H' e⟩⟩
theorem ev_sl {lo hi : Option Expr} {flo fhi : Option VE} {p2 : Pos} (ha : EB X a fa) (hl : (lo = none ∧ flo = none) ∨ ∃ e f, lo = some e ∧ flo = some f ∧ EB X e f) (hh : (hi = none ∧ fhi = none) ∨ ∃ e f, hi = some e ∧ fhi = some f ∧ EB X e f) :
    EV X (.Subscript a (.Slice lo hi none p2) pos) (vSl fa flo fhi) := by
  refine pe_imp (pe_slice sl_list ha (po_of hl) (po_of hh)) fun σ H Q ⟨S, t, A, o, rp, s, hf, q⟩ => ?_
  obtain ⟨x, h1, hf⟩ := bind_some hf
  obtain ⟨l, h2, hf⟩ := bind_some hf
  obtain ⟨u, h3, hf⟩ := bind_some hf
  refine ⟨S, t, A, x, rp, s, h1, fun v H1 as e1 r1 => ⟨S, t, A, l, rp.same e1, hS s e1, h2, fun H2 e2 => ⟨S, t, A, u, rp.same (e1.trans e2), hS s (e1.trans e2), h3, fun H3 e3 => ?_⟩⟩⟩
  unfold dSl at hf
  split at hf
  · rename_i ds hd
    cases hf
    have e := (e1.trans e2).trans e3
    obtain ⟨p, vs, rfl, k1, p1⟩ := (r1.same (e2.trans e3)).top hd
    refine ⟨p, vs, rfl, SqL.of k1, fun n hn => new_ok (k := .lst) (hS s e) (p1.cut l u) hn upd_same fun v' H' cs e' r' nd fr => q v' H' cs (e.trans e') r' nd fun z hz => e.free (fr z hz)⟩
  · cases hf
theorem ev_rev {k : Nat} {p1 p2 p3 : Pos} (ha : EB X a fa) : EV X (.Subscript a (.Slice none none (some (.UnaryOp .USub (.Constant (.int 1) k p1) p2)) p3) pos) (vRev fa) := by
  refine pe_imp (pe_revL ha) fun σ H Q ⟨S, t, A, o, rp, s, hf, q⟩ => ?_
  obtain ⟨x, h1, hf⟩ := bind_some hf
  refine ⟨S, t, A, x, rp, s, h1, fun v H1 as e r1 => ?_⟩
  unfold dRev at hf
  split at hf
  · rename_i ds hd
    cases hf
    obtain ⟨p, vs, rfl, k1, p1⟩ := r1.top hd
    refine ⟨p, vs, rfl, SqL.of k1, fun n hn => new_ok (k := .lst) (hS s e) p1.reverse hn upd_same fun v' H' cs e' r' nd fr => q v' H' cs (e.trans e') r' nd fun z hz => e.free (fr z hz)⟩
  · cases hf

/-! ### several -/
theorem pa_vs0 : PA X [] (tVs X.mg []) := pa_imp pa_nil fun σ H Q ⟨S, t, A, os, rp, s, hf, q⟩ => by
  cases hf
  exact q [] H [] (Same.refl H) ⟨rfl, rfl⟩ List.nodup_nil (fun _ z => nomatch z)
theorem pa_vs1 {fs : List VE} (ha : EV X a f) (hr : PA X es (tVs X.mg fs)) (hs : starEach (a :: es) X.env = (false, eval a X.env) :: starEach es X.env) : PA X (a :: es) (tVs X.mg (f :: fs)) := pa_imp (pa_cons ha hr hs) fun σ H Q ⟨S, t, A, os, rp, s, hf, q⟩ => by
  obtain ⟨x, h1, hf⟩ := bind_some hf
  obtain ⟨xs, h2, rfl⟩ := map_some hf
  refine ⟨S, t, A, x, rp, s, h1, fun v H1 as e1 r1 nd1 fr1 => ?_⟩
  have s1 : ∀ a, (S a ∨ a ∈ as) → H1 a ≠ none := fun a z => z.elim (fun z => hS s e1 a z) fun z n => by
    obtain ⟨u, hu⟩ := r1.there a z
    rw [n] at hu
    cases hu
  refine ⟨fun a => S a ∨ a ∈ as, t, A, xs, rp.offs (fun a z => z.elim .inl fun z => .inr (fr1 a z)) e1, s1, h2, fun vs H2 bs e2 r2 nd2 fr2 => ?_⟩
  refine q (v :: vs) H2 (as ++ bs) (e1.trans e2) ⟨v, vs, as, bs, rfl, rfl, r1.offs (fun a z => ?_) e2, r2.keep (fun a z => ?_) (fun _ _ _ q => q) fun _ _ _ q => q⟩ ?_ fun z hz => ?_
  · rcases z with z | z
    · exact .inl (.inl z)
    · rcases List.mem_append.mp z with z | z
      · exact .inl (.inr z)
      · exact .inr (fr2 a z)
  · rcases z with z | z
    · exact .inl (.inl z)
    · rcases List.mem_append.mp z with z | z
      · exact .inl (.inr z)
      · exact .inr z
  · refine List.nodup_append.mpr ⟨nd1, nd2, fun z hz w hw ew => ?_⟩
    subst ew
    obtain ⟨u, hu⟩ := r1.there z hz
    rw [fr2 z hw] at hu
    cases hu
  · rcases List.mem_append.mp hz with h | h
    · exact fr1 z h
    · exact e1.free (fr2 z h)
theorem pa_bs0 : PA X [] (tBs X.mg []) := pa_imp pa_nil fun σ H Q ⟨S, t, A, os, rp, s, hf, q⟩ => by
  cases hf
  exact q [] H [] (Same.refl H) ⟨rfl, rfl⟩
theorem pa_bs1 {fs : List VE} (ha : EB X a f) (hr : PA X es (tBs X.mg fs)) (hs : starEach (a :: es) X.env = (false, eval a X.env) :: starEach es X.env) : PA X (a :: es) (tBs X.mg (f :: fs)) := pa_imp (pa_cons ha hr hs) fun σ H Q ⟨S, t, A, os, rp, s, hf, q⟩ => by
  obtain ⟨x, h1, hf⟩ := bind_some hf
  obtain ⟨xs, h2, rfl⟩ := map_some hf
  exact ⟨S, t, A, x, rp, s, h1, fun v H1 as e1 r1 => ⟨S, t, A, xs, rp.same e1, hS s e1, h2, fun vs H2 bs e2 r2 => q (v :: vs) H2 (as ++ bs) (e1.trans e2) ⟨v, vs, as, bs, rfl, rfl, r1.same e2, r2⟩⟩⟩
theorem ev_list {fs : List VE} (h : PA X es (tVs X.mg fs)) : EV X (.List es pos) (vNd .lst fs) := by
  refine pe_imp (pe_lst h) fun σ H Q ⟨S, t, A, o, rp, s, hf, q⟩ => ?_
  obtain ⟨xs, h1, hf⟩ := bind_some hf
  obtain ⟨hz, rfl⟩ := ite_some hf
  refine ⟨S, t, A, xs, rp, s, h1, fun vs H1 as e1 r1 nd fr => ⟨by rw [r1.length]; exact big_line hz, fun p hp => ?_⟩⟩
  have e2 : Same H1 (upd H1 p (.lst vs)) := same_upd hp
  refine q (.ref p) _ (p :: as) (e1.trans e2) ⟨p, vs, as, rfl, rfl, upd_same, r1.offs (fun a z => z.elim (fun z => .inl (.inl z)) fun z => (List.mem_cons.mp z).elim (fun z => .inr (by rw [z]; exact hp)) fun z => .inl (.inr z)) e2⟩ (List.nodup_cons.mpr ⟨fun z => ?_, nd⟩) fun z hz => ?_
  · obtain ⟨u, hu⟩ := r1.there p z
    rw [hp] at hu
    cases hu
  · rcases List.mem_cons.mp hz with h | h
    · subst h; exact e1.free hp
    · exact fr z h
theorem ev_tup {fs : List VE} {k : Nat} (h : PA X es (tVs X.mg fs)) : EV X (.Tuple es k pos) (vNd .tup fs) := by
  refine pe_imp (pe_tup h) fun σ H Q ⟨S, t, A, o, rp, s, hf, q⟩ => ?_
  obtain ⟨xs, h1, hf⟩ := bind_some hf
  obtain ⟨hz, rfl⟩ := ite_some hf
  refine ⟨S, t, A, xs, rp, s, h1, fun vs H1 as e1 r1 nd fr => ⟨by rw [r1.length]; exact big_line hz, fun p hp => ?_⟩⟩
  have e2 : Same H1 (upd H1 p (.tup vs)) := same_upd hp
  refine q (.ref p) _ (p :: as) (e1.trans e2) ⟨p, vs, as, rfl, rfl, upd_same, r1.offs (fun a z => z.elim (fun z => .inl (.inl z)) fun z => (List.mem_cons.mp z).elim (fun z => .inr (by rw [z]; exact hp)) fun z => .inl (.inr z)) e2⟩ (List.nodup_cons.mpr ⟨fun z => ?_, nd⟩) fun z hz => ?_
  · obtain ⟨u, hu⟩ := r1.there p z
    rw [hp] at hu
    cases hu
  · rcases List.mem_cons.mp hz with h | h
    · subst h; exact e1.free hp
    · exact fr z h

/-- a display that is only read -/
theorem eb_list {fs : List VE} (h : PA X es (tBs X.mg fs)) : EB X (.List es pos) (bNd .lst fs) := by
  refine pe_imp (pe_lst h) fun σ H Q ⟨S, t, A, o, rp, s, hf, q⟩ => ?_
  obtain ⟨xs, h1, hf⟩ := bind_some hf
  obtain ⟨hz, rfl⟩ := ite_some hf
  refine ⟨S, t, A, xs, rp, s, h1, fun vs H1 as e1 r1 => ⟨by rw [r1.length]; exact big_line hz, fun p hp => ?_⟩⟩
  have e2 : Same H1 (upd H1 p (.lst vs)) := same_upd hp
  exact q (.ref p) _ (p :: as) (e1.trans e2) ⟨p, vs, as, rfl, rfl, upd_same, r1.same e2⟩
theorem eb_tup {fs : List VE} {k : Nat} (h : PA X es (tBs X.mg fs)) : EB X (.Tuple es k pos) (bNd .tup fs) := by
  refine pe_imp (pe_tup h) fun σ H Q ⟨S, t, A, o, rp, s, hf, q⟩ => ?_
  obtain ⟨xs, h1, hf⟩ := bind_some hf
  obtain ⟨hz, rfl⟩ := ite_some hf
  refine ⟨S, t, A, xs, rp, s, h1, fun vs H1 as e1 r1 => ⟨by rw [r1.length]; exact big_line hz, fun p hp => ?_⟩⟩
  have e2 : Same H1 (upd H1 p (.tup vs)) := same_upd hp
  exact q (.ref p) _ (p :: as) (e1.trans e2) ⟨p, vs, as, rfl, rfl, upd_same, r1.same e2⟩
/-- {} -/
def vDk : VE := fun _ => some (.nd (.dk []) [])
def vDt : VE := fun _ => some (.nd (.dt []) [])
theorem ev_dk : EV X (.Dict [] [] pos) vDk := by
  refine pe_imp pe_dnewK fun σ H Q ⟨S, t, A, o, rp, s, hf, q⟩ p hp => ?_
  cases hf
  exact new_ok (k := .dk []) (ds := []) (vs := []) s rfl hp ⟨rfl, upd_same⟩ q
theorem ev_dt : EV X (.Dict [] [] pos) vDt := by
  refine pe_imp pe_dnewT fun σ H Q ⟨S, t, A, o, rp, s, hf, q⟩ p hp => ?_
  cases hf
  exact new_ok (k := .dt []) (ds := []) (vs := []) s rfl hp ⟨rfl, upd_same⟩ q

/-! ### built-in calls -/
/-- a call of one value -/
def CaD (X : Cx) (fv : Value) (g : O → Option O) : Prop := ∃ r : List V → Hp → VK → Prop, CallR X fv r ∧ ∀ (S : Addr → Prop) (x : O) (v : V) (as : List Addr) (H : Hp) (Q : VK) (o : O),
  (∀ a, S a → H a ≠ none) → RepO X.mg S H x v as → g x = some o →
  (∀ v' H' cs, Same H H' → RepO X.mg (fun a => S a ∨ a ∈ cs) H' o v' cs → cs.Nodup → (∀ c ∈ cs, H c = none) → Q v' H') → r [v] H Q
theorem ev_ca {fv : Value} {h : O → Option O} {ex : Expr} (hc : CaD X fv h) (hp : ∀ r t, CallR X fv r → PA X [a] t → PE X ex (tCB r t)) (ha : EB X a fa) (hs : starEach [a] X.env = [(false, eval a X.env)]) : EV X ex (v1 h fa) := by
  obtain ⟨r, hr, hi⟩ := hc
  refine pe_imp (hp r _ hr (pa_cons ha pa_nil hs)) fun σ H Q ⟨S, t, A, o, rp, s, hf, q⟩ => ?_
  obtain ⟨x, h1, hf⟩ := bind_some hf
  refine ⟨S, t, A, x, rp, s, h1, fun v H1 as e r1 => ?_⟩
  exact hi S x v as H1 Q o (hS s e) r1 hf fun v' H' cs e' r' nd fr => q v' H' cs (e.trans e') r' nd fun z hz => e.free (fr z hz)
theorem cad_len : CaD X (.builtin "len") dLen := by
  refine ⟨_, call_len_seq, fun S x v as H Q o s r e q => ?_⟩
  unfold dLen at e
  have r' := r.any
  split at e
  · rename_i ds hd
    cases e
    rw [hd] at r'
    obtain ⟨a, vs, h1, h2, h3, h4⟩ := r'
    exact ⟨a, vs, by rw [h1], .inl (SqL.of h3), by rw [h4.length]; exact flat_ok q⟩
  · rename_i ds hd
    cases e
    rw [hd] at r'
    obtain ⟨a, vs, h1, h2, h3, h4⟩ := r'
    exact ⟨a, vs, by rw [h1], .inr (SqT.of h3), by rw [h4.length]; exact flat_ok q⟩
  · cases e
theorem cad_abs : CaD X (.builtin "abs") dAbs := by
  refine ⟨_, call_abs, fun S x v as H Q o s r e q => ?_⟩
  obtain ⟨i, h1, rfl⟩ := map_some e
  exact ⟨i, by rw [r.int h1], flat_ok q⟩
theorem cad_int : CaD X (.type "int") dInt := by
  refine ⟨_, call_int1, fun S x v as H Q o s r e q => ?_⟩
  unfold dInt at e
  split at e
  · cases e
    exact .inl ⟨_, by rw [show v = _ from r.2], flat_ok q⟩
  · cases e
    exact .inr ⟨_, by rw [show v = _ from r.2], flat_ok q⟩
  · cases e
theorem cad_sum (hc : X.calm = true) : CaD X (.builtin "sum") dSum := by
  refine ⟨_, cr_sum hc, fun S x v as H Q o s r e q => ?_⟩
  unfold dSum at e
  have r' := r.any
  split at e
  · rename_i ds hd
    obtain ⟨ns, h5, rfl⟩ := map_some e
    rw [hd] at r'
    obtain ⟨a, vs, h1, h2, h3, h4⟩ := r'
    rw [h4.ints h5] at h3
    exact ⟨a, ns, by rw [h1], SqL.of h3, flat_ok q⟩
  · cases e
theorem cad_any (hc : X.calm = true) : CaD X (.builtin "any") dAny := by
  refine ⟨_, cr_any hc, fun S x v as H Q o s r e q => ?_⟩
  unfold dAny at e
  have r' := r.any
  split at e
  · rename_i ds hd
    obtain ⟨ns, h5, rfl⟩ := map_some e
    rw [hd] at r'
    obtain ⟨a, vs, h1, h2, h3, h4⟩ := r'
    rw [h4.bls h5] at h3
    exact ⟨a, ns, by rw [h1], SqL.of h3, flat_ok q⟩
  · cases e
theorem cad_all (hc : X.calm = true) : CaD X (.builtin "all") dAll := by
  refine ⟨_, cr_all hc, fun S x v as H Q o s r e q => ?_⟩
  unfold dAll at e
  have r' := r.any
  split at e
  · rename_i ds hd
    obtain ⟨ns, h5, rfl⟩ := map_some e
    rw [hd] at r'
    obtain ⟨a, vs, h1, h2, h3, h4⟩ := r'
    rw [h4.bls h5] at h3
    exact ⟨a, ns, by rw [h1], SqL.of h3, flat_ok q⟩
  · cases e
theorem cad_list : CaD X (.type "list") dList := by
  refine ⟨_, call_list_of, fun S x v as H Q o s r e q => ?_⟩
  unfold dList at e
  split at e
  · rename_i ds hd
    cases e
    obtain ⟨a, vs, h1, h3, h4⟩ := r.top hd
    exact ⟨a, vs, by rw [h1], .inl (SqL.of h3), fun l hl => new_ok (k := .lst) s h4 hl upd_same q⟩
  · rename_i ds hd
    cases e
    obtain ⟨a, vs, h1, h3, h4⟩ := r.top hd
    exact ⟨a, vs, by rw [h1], .inr (SqT.of h3), fun l hl => new_ok (k := .lst) s h4 hl upd_same q⟩
  · cases e
theorem cad_tuple : CaD X (.type "tuple") dTuple := by
  refine ⟨_, call_tuple_of, fun S x v as H Q o s r e q => ?_⟩
  unfold dTuple at e
  split at e
  · rename_i ds hd
    cases e
    obtain ⟨a, vs, h1, h3, h4⟩ := r.top hd
    exact ⟨a, vs, by rw [h1], .inl ⟨SqL.of h3, fun l hl => new_ok (k := .tup) s h4 hl upd_same q⟩⟩
  · cases e
theorem insI_perm (x : Int) : ∀ r : List Int, (insI x r).Perm (x :: r)
  | [] => List.Perm.refl _
  | y :: r => by
    unfold insI
    split
    · exact List.Perm.refl _
    · exact ((insI_perm x r).cons y).trans (List.Perm.swap x y r)
theorem isort_perm : ∀ ns : List Int, (isort ns).Perm ns
  | [] => List.Perm.refl _
  | x :: r => (insI_perm x (isort r)).trans ((isort_perm r).cons x)
theorem insI_up (x : Int) : ∀ r : List Int, r.Pairwise (· ≤ ·) → (insI x r).Pairwise (· ≤ ·)
  | [], _ => by simp [insI]
  | y :: r, h => by
    obtain ⟨h1, h2⟩ := List.pairwise_cons.mp h
    unfold insI
    split
    · rename_i hxy
      refine List.pairwise_cons.mpr ⟨fun z hz => ?_, h⟩
      rcases List.mem_cons.mp hz with rfl | hz
      · exact hxy
      · have := h1 z hz
        omega
    · rename_i hxy
      refine List.pairwise_cons.mpr ⟨fun z hz => ?_, insI_up x r h2⟩
      rcases List.mem_cons.mp ((insI_perm x r).subset hz) with rfl | hz
      · omega
      · exact h1 z hz
theorem isort_up : ∀ ns : List Int, (isort ns).Pairwise (· ≤ ·)
  | [] => List.Pairwise.nil
  | x :: r => insI_up x _ (isort_up r)
/-- one rising list of the same numbers -/
theorem up_one : ∀ {a b : List Int}, a.Perm b → a.Pairwise (· ≤ ·) → b.Pairwise (· ≤ ·) → a = b
  | [], b, h, _, _ => (List.Perm.nil_eq h)
  | x :: a, [], h, _, _ => by
    have := h.length_eq
    simp at this
  | x :: a, y :: b, h, ha, hb => by
    obtain ⟨a1, a2⟩ := List.pairwise_cons.mp ha
    obtain ⟨b1, b2⟩ := List.pairwise_cons.mp hb
    have e : x = y := by
      have hx : y ≤ x := by
        rcases List.mem_cons.mp (h.subset List.mem_cons_self) with z | z
        · omega
        · exact b1 x z
      have hy : x ≤ y := by
        rcases List.mem_cons.mp (h.symm.subset List.mem_cons_self) with z | z
        · omega
        · exact a1 y z
      omega
    subst e
    rw [up_one (List.Perm.cons_inv h) a2 b2]
theorem Reps.ofInts {ns : List Int} : Reps mg S H (ns.map D.int) (ns.map V.int) := by
  induction ns with
  | nil => rfl
  | cons n r ih => exact ⟨.int n, _, rfl, rfl, ih⟩
theorem ikeys_eq : ∀ {kvs : List (L2.Key × V)} {ks : List Int}, ikeys? kvs = some ks → kvs.map (·.1) = ks.map Sum.inl
  | [], ks, h => by cases h; rfl
  | (.inl i, v) :: r, ks, h => by
    obtain ⟨kr, h1, rfl⟩ := map_some h
    rw [List.map_cons, List.map_cons, ikeys_eq h1]
  | (.inr i, v) :: r, ks, h => by cases h
theorem call_or {fv : Value} {r r' : List V → Hp → VK → Prop} (h : CallR X fv r) (h' : CallR X fv r') : CallR X fv (fun xs H Q => r xs H Q ∨ r' xs H Q) := by
  intro pins s σ H vs us Q I rr q
  exact q.elim (h pins s σ H vs us Q I rr) (h' pins s σ H vs us Q I rr)
theorem cad_sorted (hc : X.calm = true) : CaD X (.builtin "sorted") dSorted := by
  refine ⟨_, call_or cr_sortedI (call_sortedDI hc), fun S x v as H Q o s r e q => ?_⟩
  unfold dSorted at e
  have r' := r.any
  split at e
  · rename_i ds hd
    obtain ⟨ns, h5, rfl⟩ := map_some e
    rw [hd] at r'
    obtain ⟨a, vs, h1, h2, h3, h4⟩ := r'
    have h3 : H a = some (.lst vs) := h3
    rw [h4.ints h5] at h3
    refine .inl ⟨a, ns, by rw [h1], SqL.of h3, fun ns' p hp hu hn => ?_⟩
    have : ns' = isort ns := up_one (hp.trans (isort_perm ns).symm) hu (isort_up ns)
    subst this
    have z := new_ok (mg := X.mg) (k := .lst) (ds := (isort ns).map D.int) (vs := (isort ns).map V.int) s Reps.ofInts hn upd_same (Q := Q)
    rw [List.map_map] at z
    exact z q
  · rename_i kvs ds hd
    obtain ⟨ks, h5, e⟩ := bind_some e
    obtain ⟨hl, rfl⟩ := ite_some e
    rw [hd] at r'
    obtain ⟨a, vs, h1, h2, h3, h4⟩ := r'
    refine .inr ⟨a, kvs, ks, by rw [h1], .inl h3.2, ikeys_eq h5, hl, fun ys p hp hu hn => ?_⟩
    have : ys = isort ks := up_one (hp.trans (isort_perm ks).symm) hu (isort_up ks)
    subst this
    have z := new_ok (mg := X.mg) (k := .lst) (ds := (isort ks).map D.int) (vs := (isort ks).map V.int) s Reps.ofInts hn upd_same (Q := Q)
    rw [List.map_map] at z
    exact z q
  · cases e
theorem maxI_in : ∀ (r : List Int) (m : Int), maxI m r ∈ m :: r ∧ ∀ y ∈ m :: r, y ≤ maxI m r
  | [], m => ⟨List.mem_cons_self, fun y hy => by
      have : y = m := by simpa using hy
      rw [this]
      exact Int.le_refl _⟩
  | x :: r, m => by
    unfold maxI
    obtain ⟨h1, h2⟩ := maxI_in r (if m < x then x else m)
    constructor
    · rcases List.mem_cons.mp h1 with z | z
      · rw [z]
        split
        · exact List.mem_cons_of_mem _ List.mem_cons_self
        · exact List.mem_cons_self
      · exact List.mem_cons_of_mem _ (List.mem_cons_of_mem _ z)
    · intro y hy
      have h3 := h2 _ List.mem_cons_self
      have h4 : m ≤ (if m < x then x else m) ∧ x ≤ (if m < x then x else m) := by split <;> omega
      rcases List.mem_cons.mp hy with rfl | hy
      · exact Int.le_trans h4.1 h3
      · rcases List.mem_cons.mp hy with rfl | hy
        · exact Int.le_trans h4.2 h3
        · exact h2 y (List.mem_cons_of_mem _ hy)
theorem cad_max (hc : X.calm = true) : CaD X (.builtin "max") dMaxL := by
  refine ⟨_, cr_max hc, fun S x v as H Q o s r e q => ?_⟩
  unfold dMaxL at e
  have r' := r.any
  split at e
  · rename_i ds hd
    obtain ⟨ns, h5, e⟩ := bind_some e
    rw [hd] at r'
    obtain ⟨a, vs, h1, h2, h3, h4⟩ := r'
    have h3 : H a = some (.lst vs) := h3
    rw [h4.ints h5] at h3
    split at e
    · cases e
    · rename_i n rr
      cases e
      refine ⟨a, n :: rr, by rw [h1], SqL.of h3, by simp, fun m hm hy => ?_⟩
      obtain ⟨z1, z2⟩ := maxI_in rr n
      have : m = maxI n rr := by
        have := hy _ z1
        have := z2 m hm
        omega
      rw [this]
      exact flat_ok q
  · cases e
/-- truths of whole numbers -/
theorem truth_ints {prog : Program} {w : World} {A : Around} {ns : List Int} {its : List Value} (e : Vals (ns.map V.int) its) :
    TruthOf prog w A (fun i v => its.toArray[i]? = some v) (fun i => (ns.map fun k => decide (k ≠ 0)).getD i false) := fun i v s Q E hv hq => by
  have hv' : its[i]? = some v := by simpa using hv
  have go : ∀ {ns : List Int} {its : List Value} {i : Nat}, Vals (ns.map V.int) its → its[i]? = some v → ∃ k t, ns[i]? = some k ∧ v = Value.int k t := by
    intro ns
    induction ns with
    | nil =>
      intro its i h1 h2
      cases h1
      simp at h2
    | cons k r ih =>
      intro its i h1 h2
      cases h1 with
      | cons a b =>
        obtain ⟨t, rfl⟩ := a
        cases i with
        | zero =>
          simp at h2
          exact ⟨k, t, rfl, h2.symm⟩
        | succ i =>
          obtain ⟨k', t', q1, q2⟩ := ih b (by simpa using h2)
          exact ⟨k', t', by simpa using q1, q2⟩
  obtain ⟨k, t, h1, rfl⟩ := go e hv'
  have hg : (ns.map fun k => decide (k ≠ 0)).getD i false = decide (k ≠ 0) := by
    rw [List.getD_eq_getElem?_getD, List.getElem?_map, h1]
    rfl
  have hq2 : Q ((ns.map fun k => decide (k ≠ 0)).getD i false) s := hq
  rw [hg] at hq2
  refine PySem.P.truthy_int ?_
  have e2 : (k != 0) = decide (k ≠ 0) := by
    by_cases z : k = 0
    · subst z; rfl
    · rw [decide_eq_true z]
      exact bne_iff_ne.mpr z
  rw [e2]
  exact hq2
theorem cr_anyI (hc : X.calm = true) : CallR X (.builtin "any") (fun vs H Q => ∃ (a : Addr) (ns : List Int), vs = [V.ref a] ∧ SqL X.K H a (ns.map V.int) ∧ Q (.bl (ns.any fun i => decide (i ≠ 0))) H) := by
  intro pins s σ H vs us Q I rr ⟨a, ns, ev, hs, q⟩
  subst ev
  obtain ⟨its, rv, hl, _⟩ := I.list hs
  rw [Vals.ref1 rr]
  refine call_any_walk (iter_any hl.isList fun s₂ e2 st hne => ?_)
  subst e2
  refine ⟨_, _, _, _, _, _, _, rfl, Walks.list (A := X.A.in1) (I.ok.hd hc) _ a hne its.toArray, st, truth_ints rv, fun h2 tk hk => ⟨.bl (ns.any fun i => decide (i ≠ 0)), H, I.kept fun b ob eo => hk b ob (fun hm => ?_) (Heap.get?_push_of_some _ eo), ?_, q⟩⟩
  · rcases List.mem_cons.mp hm with e1 | hm
    · exact absurd (e1 ▸ Heap.lt_size eo) (Nat.lt_irrefl _)
    · cases hm
  · show Value.bool _ = Value.bool _
    have e3 := any_range (ns.map fun k => decide (k ≠ 0))
    rw [List.any_map] at e3
    have e4 : its.length = ns.length := by rw [← rv.length, List.length_map]
    rw [List.size_toArray, e4]
    rw [List.length_map] at e3
    rw [e3]
    rfl
theorem cad_any2 (hc : X.calm = true) : CaD X (.builtin "any") dAny2 := by
  refine ⟨_, call_or (cr_any hc) (cr_anyI hc), fun S x v as H Q o s r e q => ?_⟩
  have r' := r.any
  rcases Option.or_eq_some_iff.mp e with e | ⟨_, e⟩
  · unfold dAny at e
    split at e
    · rename_i ds hd
      obtain ⟨ns, h5, rfl⟩ := map_some e
      rw [hd] at r'
      obtain ⟨a, vs, h1, h2, h3, h4⟩ := r'
      rw [h4.bls h5] at h3
      exact .inl ⟨a, ns, by rw [h1], SqL.of h3, flat_ok q⟩
    · cases e
  · unfold dAnyI at e
    split at e
    · rename_i ds hd
      obtain ⟨ns, h5, rfl⟩ := map_some e
      rw [hd] at r'
      obtain ⟨a, vs, h1, h2, h3, h4⟩ := r'
      rw [h4.ints h5] at h3
      exact .inr ⟨a, ns, by rw [h1], SqL.of h3, flat_ok q⟩
    · cases e
/-- max, min of two -/
theorem ev_ca2 {id : String} {h : O → O → Option O} {gg : Int → Int → Int} {ex : Expr} (hr : CallR X (.builtin id) (fun xs H Q => ∃ i j, xs = [.int i, .int j] ∧ Q (.int (gg i j)) H)) (hh : ∀ x y o, h x y = some o → ∃ i j, x = .int i ∧ y = .int j ∧ o = .int (gg i j))
    (hp : ∀ r t, CallR X (.builtin id) r → PA X [a, b] t → PE X ex (tCB r t)) (ha : EB X a fa) (hb : EB X b fb) (hs : starEach [a, b] X.env = [(false, eval a X.env), (false, eval b X.env)]) (hs2 : starEach [b] X.env = [(false, eval b X.env)]) : EV X ex (v2 h fa fb) := by
  refine pe_imp (hp _ _ hr (pa_cons ha (pa_cons hb pa_nil hs2) (by rw [hs, hs2]))) fun σ H Q ⟨S, t, A, o, rp, s, hf, q⟩ => ?_
  obtain ⟨x, h1, hf⟩ := bind_some hf
  obtain ⟨y, h2, hf⟩ := bind_some hf
  obtain ⟨i, j, rfl, rfl, rfl⟩ := hh x y o hf
  refine two ⟨S, t, A, _, _, rp, s, h1, h2, fun v w H2 as bs e r1 r2 => ⟨i, j, ?_, q _ H2 [] e ⟨rfl, rfl⟩ List.nodup_nil (fun _ z => nomatch z)⟩⟩
  rw [show v = V.int i from r1.2, show w = V.int j from r2.2]
theorem i2_some {gg : Int → Int → Int} {x y o : O} (h : i2 (fun i j => some (.int (gg i j))) x y = some o) : ∃ i j, x = .int i ∧ y = .int j ∧ o = .int (gg i j) := by
  unfold i2 at h
  split at h
  · exact ⟨_, _, rfl, rfl, (Option.some.inj h).symm⟩
  · cases h
/-! ### isinstance of a built-in class -/
theorem ty_of {K : PySem.W.Frag} {x : O} {v : V} {as : List Addr} {n : String} (r : RepO mg S H x v as) (e : x.ty = some n) : TyX K H v (.type n) := by
  have r' := r.any
  unfold O.ty at e
  split at e
  · rename_i hd; cases e; rw [hd] at r'; cases (show v = _ from r'); exact .base .non
  · rename_i b hd; cases e; rw [hd] at r'; cases (show v = _ from r'); exact .base (.bl b)
  · rename_i b hd; cases e; rw [hd] at r'; cases (show v = _ from r'); exact .base (.int b)
  · rename_i b hd; cases e; rw [hd] at r'; cases (show v = _ from r'); exact .base (.str b)
  · rename_i ds hd
    cases e; rw [hd] at r'
    obtain ⟨a, vs, rfl, h2, h3, h4⟩ := r'
    exact .base (.lst h3)
  · rename_i ds hd
    cases e; rw [hd] at r'
    obtain ⟨a, vs, rfl, h2, h3, h4⟩ := r'
    exact .base (.tup h3)
  · rename_i ds hd
    cases e; rw [hd] at r'
    obtain ⟨a, vs, rfl, h2, h3, h4⟩ := r'
    exact .base (.dK h3.2)
  · rename_i ds hd
    cases e; rw [hd] at r'
    obtain ⟨a, vs, rfl, h2, h3, h4⟩ := r'
    exact .base (.dT h3.2)
  · cases e
theorem ev_isB {n : String} {ex : Expr} (hp : ∀ r t, CallR X (.builtin "isinstance") r → PA X [a, b] t → PE X ex (tCB r t)) (ha : EB X a fa) (hb : PE X b (tC (.ty n))) (hs : starEach [a, b] X.env = [(false, eval a X.env), (false, eval b X.env)]) (hs2 : starEach [b] X.env = [(false, eval b X.env)]) : EV X ex (v1 (dIsB n) fa) := by
  refine pe_imp (hp _ _ call_isi (pa_cons ha (pa_cons hb pa_nil hs2) (by rw [hs, hs2]))) fun σ H Q ⟨S, t, A, o, rp, s, hf, q⟩ => ?_
  obtain ⟨x, h1, hf⟩ := bind_some hf
  obtain ⟨ty, h2, hf⟩ := bind_some hf
  obtain ⟨k, h3, rfl⟩ := map_some hf
  refine ⟨S, t, A, x, rp, s, h1, fun v H1 as e r => ?_⟩
  exact ⟨v, .ty n, .type ty, .type n, k, rfl, .ty n, ty_of r h2, kit_ty h3, q _ H1 [] e ⟨rfl, rfl⟩ List.nodup_nil (fun _ z => nomatch z)⟩
theorem ev_index {apos cpos : Pos} (hu : X.A.units + 65 < cLine) (hp : ∀ r ta t, MtR X "list.index" r → PE X a ta → PA X [b] t → PE X e (tBM X.K "list" r ta t)) (ha : EB X a fa) (hb : EB X b fb) (hs : starEach [b] X.env = [(false, eval b X.env)]) : EV X e (v2 dIndex fa fb) := by
  refine pe_imp (hp _ _ _ (mt_indexD hu) ha (pa_cons hb pa_nil hs)) fun σ H Q ⟨S, t, A, o, rp, s, hf, q⟩ => ?_
  obtain ⟨x, h1, hf⟩ := bind_some hf
  obtain ⟨y, h2, hf⟩ := bind_some hf
  obtain ⟨px, h3, hf⟩ := bind_some hf
  obtain ⟨py, h4, hf⟩ := bind_some hf
  split at hf
  · rename_i ds _
    split at hf
    · rename_i hsh
      obtain ⟨j, h5, rfl⟩ := map_some hf
      refine ⟨S, t, A, x, rp, s, h1, fun v H1 as e1 r1 => ?_⟩
      have hl : ∃ l vs, v = .ref l ∧ H1 l = some (.lst vs) := by
        have r1 := r1.any
        generalize x.toD = d at h3 r1
        match d, h3, r1 with
        | .nd .lst es, h3, r1 =>
          obtain ⟨a, vs, rfl, _, hk, _⟩ := r1
          exact ⟨a, vs, rfl, hk⟩
        | .nd .tup es, h3, r1 =>
          unfold D.py at h3
          obtain ⟨_, _, z⟩ := map_some h3
          cases z
        | .nd (.ins _ _) es, h3, r1 => cases h3
        | .nd (.dk _) es, h3, r1 => cases h3
        | .nd (.dt _) es, h3, r1 => cases h3
        | .at .non, h3, r1 => cases h3
        | .at (.bl _), h3, r1 => cases h3
        | .at (.int _), h3, r1 => cases h3
        | .at (.str _), h3, r1 => cases h3
        | .at (.byt _), h3, r1 => cases h3
        | .at (.flt _), h3, r1 => cases h3
        | .at (.ref _), h3, r1 => cases h3
        | .at (.ty _), h3, r1 => cases h3
      obtain ⟨l, vs, rfl, hl⟩ := hl
      refine ⟨.inl ⟨rfl, vs, SqL.of hl⟩, S, t, A, y, rp.same e1, hS s e1, h2, fun w H2 bs e2 r2 => ?_⟩
      obtain ⟨hj, hz, hno⟩ := List.findIdx?_eq_some_iff_getElem.mp h5
      refine ⟨l, w, py, ds, j, ds[j], rfl, rfl, (r1.same e2).any.py h3, r2.any.py h4, hsh.1, hsh.2, List.getElem?_eq_getElem hj, hz, fun m z' hm hz' => ?_, q _ H2 [] (e1.trans e2) ⟨rfl, rfl⟩ List.nodup_nil (fun _ z => nomatch z)⟩
      have h6 := hno m hm
      rw [List.getElem?_eq_getElem (by omega)] at hz'
      cases hz'
      simpa using h6
    · cases hf
  · cases hf
end
end Den

/-! Den4: arguments and calls, walks, targets, comprehensions. -/
namespace Den
open PySem L2
section
variable {X : Cx} {e a b c : Expr} {es : List Expr} {f fa fb fc g : VE} {pos : Pos}
variable {mg : Str → Option Value} {S S' : Addr → Prop} {H H' : Hp}
theorem RepO.less {o : O} {v : V} {as : List Addr} (h : RepO mg S H o v as) (hs : ∀ a, S' a → S a) : RepO mg S' H o v as := h.keep hs (fun _ _ _ q => q) fun _ _ _ q => q
theorem RepOs.less {o : List O} {v : List V} {as : List Addr} (h : RepOs mg S H o v as) (hs : ∀ a, S' a → S a) : RepOs mg S' H o v as := h.keep hs (fun _ _ _ q => q) fun _ _ _ q => q
theorem RepSl.less {o : Tau} {v : St} {as : List Addr} (h : RepSl mg S H o v as) (hs : ∀ a, S' a → S a) : RepSl mg S' H o v as := h.keep hs (fun _ _ _ q => q) fun _ _ _ q => q

/-! ### arguments -/
def tA1 (mg : Str → Option Value) (fe : AE) : TE := fun σ H Q => ∃ (S : Addr → Prop) (t : Tau) (A : List Addr) (p : O × Bool), RepSl mg S H t σ A ∧ (∀ a, S a → H a ≠ none) ∧ fe t = some p ∧
  ∀ v H' as, Same H H' → RepO mg (fun a => p.2 = true ∧ (S a ∨ a ∈ as)) H' p.1 v as → as.Nodup → (∀ a ∈ as, H a = none) → Q v H'
abbrev EA (X : Cx) (e : Expr) (f : AE) : Prop := PE X e (tA1 X.mg f)
theorem ea_pl (h : EB X a f) : EA X a (aPl f) := pe_imp h fun σ H Q ⟨S, t, A, p, r, s, hf, q⟩ => by
  obtain ⟨o, h1, rfl⟩ := map_some hf
  refine ⟨S, t, A, o, r, s, h1, fun v H' as e1 r1 => q v H' [] e1 ⟨rfl, ?_⟩ List.nodup_nil (fun _ z => nomatch z)⟩
  match o, r1 with
  | .val d, r1 => exact r1.2.less fun a z => z.2.elim id fun z => nomatch z
  | .nd k xs, r1 => exact r1.any.less fun a z => by cases z.1
theorem ea_np (h : EV X a f) : EA X a (aNp f) := pe_imp h fun σ H Q ⟨S, t, A, p, r, s, hf, q⟩ => by
  obtain ⟨o, h1, rfl⟩ := map_some hf
  exact ⟨S, t, A, o, r, s, h1, fun v H' as e1 r1 nd fr => q v H' [] e1 ⟨rfl, (r1.toD (S' := S) (fun a z => .inl z) fun a ha sa => s a sa (fr a ha)).less fun a z => z.2.elim id fun z => nomatch z⟩ List.nodup_nil (fun _ z => nomatch z)⟩
theorem ea_mv (h : EV X a f) : EA X a (aMv f) := pe_imp h fun σ H Q ⟨S, t, A, p, r, s, hf, q⟩ => by
  obtain ⟨o, h1, rfl⟩ := map_some hf
  exact ⟨S, t, A, o, r, s, h1, fun v H' as e1 r1 nd fr => q v H' as e1 (r1.less fun a z => z.2) nd fr⟩
theorem pa_ar0 : PA X [] (tAr X.mg []) := pa_imp pa_nil fun σ H Q ⟨S, t, A, os, rp, s, hf, q⟩ => by
  cases hf
  exact q [] H [] (Same.refl H) ⟨rfl, rfl⟩ List.nodup_nil (fun _ z => nomatch z)
theorem pa_ar1 {f : AE} {fs : List AE} (ha : EA X a f) (hr : PA X es (tAr X.mg fs)) (hs : starEach (a :: es) X.env = (false, eval a X.env) :: starEach es X.env) : PA X (a :: es) (tAr X.mg (f :: fs)) := pa_imp (pa_cons ha hr hs) fun σ H Q ⟨S, t, A, os, rp, s, hf, q⟩ => by
  obtain ⟨x, h1, hf⟩ := bind_some hf
  obtain ⟨xs, h2, rfl⟩ := map_some hf
  refine ⟨S, t, A, x, rp, s, h1, fun v H1 as e1 r1 nd1 fr1 => ?_⟩
  have s1 : ∀ a, (S a ∨ a ∈ as) → H1 a ≠ none := fun a z => z.elim (fun z => hS s e1 a z) fun z n => by
    obtain ⟨u, hu⟩ := r1.there a z
    rw [n] at hu
    cases hu
  refine ⟨fun a => S a ∨ a ∈ as, t, A, xs, rp.offs (fun a z => z.elim .inl fun z => .inr (fr1 a z)) e1, s1, h2, fun vs H2 bs e2 r2 nd2 fr2 => ?_⟩
  refine q (v :: vs) H2 (as ++ bs) (e1.trans e2) ⟨v, vs, as, bs, rfl, rfl, r1.offs (fun a z => ?_) e2, r2.less (fun a z => ?_)⟩ ?_ fun z hz => ?_
  · obtain ⟨z1, z⟩ := z
    have z2 := (Bool.and_eq_true_iff.mp z1).1
    rcases z with z | z
    · exact .inl ⟨z2, .inl z⟩
    · rcases List.mem_append.mp z with z | z
      · exact .inl ⟨z2, .inr z⟩
      · exact .inr (fr2 a z)
  · obtain ⟨z1, z⟩ := z
    refine ⟨(Bool.and_eq_true_iff.mp z1).2, ?_⟩
    rcases z with z | z
    · exact .inl (.inl z)
    · rcases List.mem_append.mp z with z | z
      · exact .inl (.inr z)
      · exact .inr z
  · refine List.nodup_append.mpr ⟨nd1, nd2, fun z hz w hw ew => ?_⟩
    subst ew
    obtain ⟨u, hu⟩ := r1.there z hz
    rw [fr2 z hw] at hu
    cases hu
  · rcases List.mem_append.mp hz with h | h
    · exact fr1 z h
    · exact e1.free (fr2 z h)
/-! ### calls -/
/-- the promise of a def that is worth F -/
def spD (mg : Str → Option Value) (n : Nat) (F : Fn) : Sp := fun vs H Q _ => ∃ (S : Addr → Prop) (os : List O) (as : List Addr) (o : O), RepOs mg (fun a => S a ∨ a ∈ as) H os vs as ∧ as.Nodup ∧ (∀ a ∈ as, ¬ S a) ∧ (∀ a, S a → H a ≠ none) ∧ os.length = n ∧ F os = some o ∧
  ∀ v H' bs, (∀ a u, a ∉ as → H a = some u → H' a = some u) → RepO mg (fun a => S a ∨ a ∈ bs) H' o v bs → bs.Nodup → (∀ b ∈ bs, b ∈ as ∨ H b = none) → Q v H'
theorem RepOs.noAddr : ∀ {os : List O} {vs : List V} {as : List Addr}, os.all O.isVal = true → RepOs mg S H os vs as → as = []
  | [], vs, as, _, h => h.2
  | .val d :: r, vs, as, e, h => by
    obtain ⟨v, vr, bs, cs, h1, h2, h3, h4⟩ := h
    rw [h2, h3.1, RepOs.noAddr (by simpa [O.isVal] using e) h4]
    rfl
  | .nd k xs :: r, vs, as, e, h => by simp [O.isVal] at e
theorem aAll_len : ∀ {fs : List AE} {t : Tau} {q : List O × Bool}, aAll fs t = some q → q.1.length = fs.length
  | [], t, q, h => by cases h; rfl
  | f :: fs, t, q, h => by
    obtain ⟨x, h1, h⟩ := bind_some h
    obtain ⟨xs, h2, rfl⟩ := map_some h
    show xs.1.length + 1 = fs.length + 1
    rw [aAll_len h2]
/-- from the arguments to the promise -/
theorem call_q {mg : Str → Option Value} {n : Nat} {F : Fn} {fs : List AE} {E : XK} {σ : St} {H : Hp} {Q : VK} {S : Addr → Prop} {t : Tau} {o : O} {qq : List O × Bool} {r : O} (hn : fs.length = n) (s : ∀ a, S a → H a ≠ none) (h1 : aAll fs t = some qq) (h2 : F qq.1 = some r) (hk : qq.2 = true ∨ (qq.1.all O.isVal = true ∧ r.allFlat = true)) (he : r = o)
    (q : ∀ v H' as, Same H H' → RepO mg (fun a => S a ∨ a ∈ as) H' o v as → as.Nodup → (∀ a ∈ as, H a = none) → Q v H') : ∀ vs H1 as, Same H H1 → RepOs mg (fun a => qq.2 = true ∧ (S a ∨ a ∈ as)) H1 qq.1 vs as → as.Nodup → (∀ a ∈ as, H a = none) → spD mg n F vs H1 Q E := fun vs H1 as e1 r1 nd fr => by
  subst he
  have rr : RepOs mg (fun a => (qq.2 = true ∧ S a) ∨ a ∈ as) H1 qq.1 vs as := by
    rcases hk with hk | ⟨hk, _⟩
    · exact r1.less fun a z => ⟨hk, z.elim (fun z => .inl z.2) .inr⟩
    · have z := r1.noAddr hk
      subst z
      exact r1.less fun a z => z.elim (fun z => ⟨z.1, .inl z.2⟩) fun z => nomatch z
  refine ⟨fun a => qq.2 = true ∧ S a, qq.1, as, r, rr, nd, fun a ha z => s a z.2 (fr a ha), fun a z => hS s e1 a z.2, by rw [aAll_len h1, hn], h2, fun v H' bs kp r2 nd2 fr2 => ?_⟩
  refine q v H' bs (fun a u ha => kp a u (fun z => ?_) (e1 a u ha)) ?_ nd2 fun z hz => ?_
  · rw [fr a z] at ha; cases ha
  · rcases hk with hk | ⟨_, hk⟩
    · exact r2.less fun a z => z.elim (fun z => .inl ⟨hk, z⟩) .inr
    · exact r2.flat hk
  · rcases fr2 z hz with h | h
    · exact fr z h
    · exact e1.free h
theorem ev_call {n : Nat} {F : Fn} {fs : List AE} {E : XK} {ex : Expr} (hn : fs.length = n) (h : PE X ex (tCall (spD X.mg n F) [] E (tAr X.mg fs))) : EV X ex (vCall F fs) := by
  refine pe_imp h fun σ H Q ⟨S, t, A, o, rp, s, hf, q⟩ => ?_
  obtain ⟨qq, h1, hf⟩ := bind_some hf
  obtain ⟨r, h2, hf⟩ := bind_some hf
  obtain ⟨hk, he⟩ := ite_some hf
  refine ⟨S, t, A, qq, rp, s, h1, fun vs H1 as e1 r1 nd fr => ?_⟩
  show spD X.mg n F (vs ++ []) H1 Q E
  rw [List.append_nil]
  exact call_q (σ := σ) hn s h1 h2 hk he q vs H1 as e1 r1 nd fr
/-- a constructor's promise: what __init__ makes of a new instance -/
def spI (mg : Str → Option Value) (c : Str) (n : Nat) (F : Fn) : Sp := fun vs H Q _ => ∃ (S : Addr → Prop) (os : List O) (as : List Addr) (o : O) (x dx C : Addr) (us : List V), vs = .ref x :: us ∧ mg c = some (.ref C) ∧ H x = some (.ins C dx []) ∧
  RepOs mg (fun a => S a ∨ a ∈ as ∨ a = x) H os us as ∧ as.Nodup ∧ (∀ a ∈ as, ¬ S a) ∧ x ∉ as ∧ ¬ S x ∧ (∀ a, S a → H a ≠ none) ∧ os.length = n ∧ F os = some o ∧
  ∀ H' bs, (∀ a u, a ∉ as → a ≠ x → H a = some u → H' a = some u) → RepO mg (fun a => S a ∨ a ∈ bs) H' o (.ref x) bs → bs.Nodup → (∀ b ∈ bs, b = x ∨ b ∈ as ∨ H b = none) → Q .non H'
theorem make_call {mg : Str → Option Value} {C : Addr} {c : Str} {n : Nat} {F : Fn} {E : XK} {t : TA} (hm : mg c = some (.ref C)) {σ : St} {H : Hp} {Q : VK} (hmono : ∀ (R R' : List V → Hp → Prop), (∀ vs H1, R vs H1 → R' vs H1) → t σ H R → t σ H R') (h : tCall (spD mg n F) [] E t σ H Q) : tMake C (spI mg c n F) [] E t σ H Q := by
  refine hmono _ _ (fun vs H1 h x dx hx hd hne => ?_) h
  obtain ⟨S, os, as, o, r, nd, na, hs, hl, hF, q⟩ := h
  have e1 : Same H1 (upd (upd H1 dx (.own x)) x (.ins C dx [])) := (same_upd hd).trans (same_upd (by rw [upd_ne (Ne.symm hne)]; exact hx))
  have xa : x ∉ as := fun z => by
    obtain ⟨u, hu⟩ := r.there x z
    rw [hx] at hu
    cases hu
  have xs : ¬ S x := fun z => hs x z hx
  refine ⟨S, os, as, o, x, dx, C, vs ++ [], rfl, hm, upd_same, r.offs (fun a z => ?_) e1, nd, na, xa, xs, hS hs e1, hl, hF, fun H' bs kp ro nd' fr => ⟨rfl, q _ H' bs (fun a u ha hu => kp a u ha (fun z => by rw [z, hx] at hu; cases hu) (e1 a u hu)) ro nd' fun b hb => ?_⟩⟩
  · rcases z with z | z | z
    · exact .inl (.inl z)
    · exact .inl (.inr z)
    · exact .inr (by rw [z]; exact hx)
  · rcases fr b hb with z | z | z
    · exact .inr (by rw [z]; exact hx)
    · exact .inl z
    · exact .inr (e1.free z)
theorem tAr_mono {mg : Str → Option Value} {fs : List AE} {σ : St} {H : Hp} (R R' : List V → Hp → Prop) (h : ∀ vs H1, R vs H1 → R' vs H1) (k : tAr mg fs σ H R) : tAr mg fs σ H R' := by
  obtain ⟨S, t, A, q, a, b, c, d⟩ := k
  exact ⟨S, t, A, q, a, b, c, fun vs H' as z1 z2 z3 z4 => h _ _ (d vs H' as z1 z2 z3 z4)⟩
/-- a name that may be called: a def or a class -/
def Cal (P : Program) (w : World) (K : PySem.W.Frag) (mg : Str → Option Value) (base : Heap) (A : Around) (x : Str) (n : Nat) (F : Fn) : Prop :=
  (∃ (f : Addr) (fd : FuncData) (ps : List Str) (k : Nat), FnOk P w K mg base CX0 k f fd ps (spD mg n F) ∧ Room k A ∧ mg x = some (.ref f) ∧ PySem.W.keepIn K (.ref f) = true ∧ Binds K fd ps []) ∨
  (∃ (C f : Addr) (fd : FuncData) (ps : List Str) (k : Nat), Mk K C f ∧ FnOk P w K mg base CX0 k f fd ps (spI mg x n F) ∧ Room (k + 1) A ∧ mg x = some (.ref C) ∧ Binds K fd ps [])
theorem ev_cal {x : Str} {n : Nat} {F : Fn} {fs : List AE} {p : Pos} (h : Cal X.prog X.w X.K X.mg X.base X.A x n F) (hg : Gl X x) (hd : (x == ("__debug__" : Str)) = false) (hn : fs.length = n) (ha : PA X (a :: es) (tAr X.mg fs))
    (he : starEach (a :: es) X.env = (false, eval a X.env) :: starEach es X.env) (hpl : (backTo pos (starEach es X.env)).any (·.1) = false) : EV X (.Call (.Name x p) (a :: es) [] pos) (vCall F fs) := by
  rcases h with ⟨f, fd, ps, k, G, hr, hm, hk, hb⟩ | ⟨C, f, fd, ps, k, M, G, hr, hm, hb⟩
  · exact ev_call (E := E0) hn (pe_call G hr hg hm hk hb .nil pass0 ha hd he hpl)
  · exact ev_call (E := E0) hn (pe_imp (pe_make M G hr hg hm hb .nil pass0 ha hd he hpl) fun σ H Q h => make_call hm (fun R R' => tAr_mono R R') h)

theorem ev_cal0 {x : Str} {F : Fn} {p : Pos} (h : Cal X.prog X.w X.K X.mg X.base X.A x 0 F) (hg : Gl X x) (hd : (x == ("__debug__" : Str)) = false) : EV X (.Call (.Name x p) [] [] pos) (vCall F []) := by
  have nil : ∀ σ H R, tAr X.mg [] σ H R → tNil σ H R := fun σ H R ⟨S, t, A, q, rp, s, hf, k⟩ => by
    cases hf
    exact k [] H [] (Same.refl H) ⟨rfl, rfl⟩ List.nodup_nil (fun _ z => nomatch z)
  rcases h with ⟨f, fd, ps, k, G, hr, hm, hk, hb⟩ | ⟨C, f, fd, ps, k, M, G, hr, hm, hb⟩
  · exact ev_call (E := E0) (n := 0) rfl (pe_imp (pe_call0 G hr hg hm hk hb .nil pass0 hd) fun σ H Q h => nil _ _ _ h)
  · exact ev_call (E := E0) (n := 0) rfl (pe_imp (pe_make0 M G hr hg hm hb .nil pass0 hd) fun σ H Q h => nil _ _ _ (make_call hm (fun R R' => tAr_mono R R') h))

/-! ### walks -/
/-- it walks ds: whatever else happens -/
def WalkD (mg : Str → Option Value) (S : Addr → Prop) (H1 : Hp) (J : It) (ds : List D) : Prop := ∃ (G : Hp → Prop) (Y : Nat → Hp → V → Hp → Prop), Walk J ds.length G Y ∧
  ∀ (S2 : Addr → Prop) (H2 : Hp), (∀ a, S2 a → S a ∨ H1 a = none) → (∀ a o, ¬ S a → H1 a = some o → H2 a = some o) → (∀ a, S2 a → H2 a ≠ none) →
    G H2 ∧ ∀ (i : Nat) x H3 d, ds[i]? = some d → Y i H2 x H3 → Same H2 H3 ∧ Rep mg S2 H3 d x
def tWk (mg : Str → Option Value) (w : WE) : TI := fun σ H R => ∃ (S : Addr → Prop) (t : Tau) (A : List Addr) (ds : List D), RepSl mg S H t σ A ∧ (∀ a, S a → H a ≠ none) ∧ w t = some ds ∧
  ∀ J H1, Same H H1 → WalkD mg S H1 J ds → R J H1
abbrev EI (X : Cx) (tg iter : Expr) (w : WE) : Prop := PI X tg iter (tWk X.mg w)
/-- the same where nothing is changed meanwhile -/
def WalkC (mg : Str → Option Value) (S : Addr → Prop) (H1 : Hp) (J : It) (ds : List D) : Prop := ∃ (G : Hp → Prop) (Y : Nat → Hp → V → Hp → Prop), Walk J ds.length G Y ∧
  ∀ (S2 : Addr → Prop) (H2 : Hp), (∀ a, S2 a → S a ∨ H1 a = none) → Same H1 H2 → (∀ a, S2 a → H2 a ≠ none) →
    G H2 ∧ ∀ (i : Nat) x H3 d, ds[i]? = some d → Y i H2 x H3 → Same H2 H3 ∧ Rep mg S2 H3 d x
def tWkC (mg : Str → Option Value) (w : WE) : TI := fun σ H R => ∃ (S : Addr → Prop) (t : Tau) (A : List Addr) (ds : List D), RepSl mg S H t σ A ∧ (∀ a, S a → H a ≠ none) ∧ w t = some ds ∧
  ∀ J H1, Same H H1 → WalkC mg S H1 J ds → R J H1
abbrev EIc (X : Cx) (tg iter : Expr) (w : WE) : Prop := PI X tg iter (tWkC X.mg w)
def wTop (a : VE) : WE := fun t => (a t).bind fun x => match x.top with
  | some (.lst, ds) => some ds
  | _ => none
theorem pi_imp {tg iter : Expr} {t t' : TI} (h : PI X tg iter t) (hi : ∀ σ H Q, t' σ H Q → t σ H Q) : PI X tg iter t' := ⟨fun pins s σ H Q I q => h.run pins s σ H Q I (hi σ H Q q)⟩
theorem walkD_list {K : PySem.W.Frag} {l : Addr} {vs : List V} {ds : List D} (ns : ¬ S l) (h : H l = some (.lst vs)) (r : Reps mg S H ds vs) : WalkD mg S H (Itl K l) ds := by
  refine ⟨_, _, by rw [← r.length]; exact walk_list (xs := vs), fun S2 H2 h2 hk hn => ⟨SqL.of (hk l _ ns h), fun i x H3 d hd y => ?_⟩⟩
  obtain ⟨rfl, hx⟩ := y
  obtain ⟨v, q1, q2⟩ := r.get hd
  rw [hx] at q1
  cases q1
  exact ⟨Same.refl _, off1 h2 hk q2⟩
theorem walkD_tup {K : PySem.W.Frag} {l : Addr} {vs : List V} {ds : List D} (ns : ¬ S l) (h : H l = some (.tup vs)) (r : Reps mg S H ds vs) : WalkD mg S H (Itt K l) ds := by
  refine ⟨_, _, by rw [← r.length]; exact walk_tup (xs := vs), fun S2 H2 h2 hk hn => ⟨SqT.of (hk l _ ns h), fun i x H3 d hd y => ?_⟩⟩
  obtain ⟨rfl, hx⟩ := y
  obtain ⟨v, q1, q2⟩ := r.get hd
  rw [hx] at q1
  cases q1
  exact ⟨Same.refl _, off1 h2 hk q2⟩
theorem pi_or {tg iter : Expr} {t t' : TI} (h : PI X tg iter t) (h' : PI X tg iter t') : PI X tg iter (fun σ H R => t σ H R ∨ t' σ H R) := ⟨fun pins s σ H R I q => q.elim (h.run pins s σ H R I) (h'.run pins s σ H R I)⟩
theorem ei_list {tg : Expr} (h : EB X a fa) : EI X tg a (wSeq fa) := by
  refine pi_imp (pi_or (pi_list h) (pi_tup h)) fun σ H R ⟨S, t, A, ds, rp, s, hf, q⟩ => ?_
  obtain ⟨x, h1, hf⟩ := bind_some hf
  split at hf
  · cases hf
    refine .inl ⟨S, t, A, _, rp, s, h1, fun v H1 as e r => ?_⟩
    obtain ⟨_, l, vs, rfl, ns, k, p⟩ := r
    exact ⟨l, rfl, ⟨vs, SqL.of k⟩, q _ H1 e (walkD_list ns k p)⟩
  · cases hf
    refine .inr ⟨S, t, A, _, rp, s, h1, fun v H1 as e r => ?_⟩
    obtain ⟨_, l, vs, rfl, ns, k, p⟩ := r
    exact ⟨l, rfl, ⟨vs, SqT.of k⟩, q _ H1 e (walkD_tup ns k p)⟩
  · cases hf
theorem EI.toC {tg iter : Expr} {w : WE} (h : EI X tg iter w) : EIc X tg iter w := pi_imp h fun σ H R ⟨S, t, A, ds, rp, s, hf, q⟩ => ⟨S, t, A, ds, rp, s, hf, fun J H1 e ⟨G, Y, wk, hw⟩ => q J H1 e ⟨G, Y, wk, fun S2 H2 a b c => hw S2 H2 a (fun l o _ z => b l o z) c⟩⟩
theorem eic_top {tg : Expr} (h : EB X a fa) : EIc X tg a (wTop fa) := by
  refine pi_imp (pi_list h) fun σ H R ⟨S, t, A, ds, rp, s, hf, q⟩ => ?_
  obtain ⟨x, h1, hf⟩ := bind_some hf
  split at hf
  · rename_i ds' ht
    cases hf
    refine ⟨S, t, A, _, rp, s, h1, fun v H1 as e r => ?_⟩
    obtain ⟨l, vs, rfl, k, p⟩ := r.top ht
    have k : H1 l = some (.lst vs) := k
    refine ⟨l, rfl, ⟨vs, SqL.of k⟩, q _ H1 e ⟨_, _, by rw [← p.length]; exact walk_list (xs := vs), fun S2 H2 h2 hk hn => ⟨SqL.of (hk l _ k), fun i x H3 d hd y => ?_⟩⟩⟩
    obtain ⟨rfl, hx⟩ := y
    obtain ⟨u, q1, q2⟩ := p.get hd
    rw [hx] at q1
    cases q1
    exact ⟨Same.refl _, off1 h2 (fun a o _ z => hk a o z) q2⟩
  · cases hf
theorem walkD_fn {J : It} {n : Nat} {ff : Nat → Int} (w : Walk J n (fun _ => True) (YFn fun i => .int (ff i))) : WalkD mg S H J ((List.range n).map fun i => D.int (ff i)) := by
  refine ⟨_, _, by rw [List.length_map, List.length_range]; exact w, fun S2 H2 h2 hk hn => ⟨trivial, fun i x H3 d hd y => ?_⟩⟩
  obtain ⟨rfl, hx⟩ := y
  refine ⟨Same.refl _, ?_⟩
  rw [List.getElem?_map] at hd
  obtain ⟨j, h1, rfl⟩ := map_some hd
  have h3 : i < n := by
    have := (List.getElem?_eq_some_iff.mp h1).1
    simpa using this
  rw [List.getElem?_range h3] at h1
  cases h1
  exact hx
theorem int_some {x : O} {i : Int} (h : x.int? = some i) : x = .int i := by
  match x, h with
  | .val (.at (.int u)), h => cases h; rfl
theorem ei_range1 {tg : Expr} {p : Pos} (hg : Gl X "range") (hm : X.mg "range" = none) (ha : EB X a fa) (hs : starEach [a] X.env = [(false, eval a X.env)]) : EI X tg (.Call (.Name "range" p) [a] [] pos) (wRange1 fa) :=
  pi_imp (pi_range1 hg hm (pa_cons ha pa_nil hs) hs) fun σ H R ⟨S, t, A, ds, rp, s, hf, q⟩ => by
    obtain ⟨x, h1, hf⟩ := bind_some hf
    obtain ⟨j, h2, hf⟩ := bind_some hf
    obtain ⟨⟨h3, h4⟩, rfl⟩ := ite_some hf
    refine ⟨S, t, A, x, rp, s, h1, fun v H1 as e r => ⟨j, by rw [r.int h2], h3, h4, q _ H1 e ?_⟩⟩
    exact walkD_fn (ff := fun i => 0 + (i : Nat)) walk_range
theorem ei_range2 {tg : Expr} {p : Pos} (hg : Gl X "range") (hm : X.mg "range" = none) (ha : EB X a fa) (hb : EB X b fb) (hs : starEach [a, b] X.env = [(false, eval a X.env), (false, eval b X.env)]) (hs2 : starEach [b] X.env = [(false, eval b X.env)]) : EI X tg (.Call (.Name "range" p) [a, b] [] pos) (wRange2 fa fb) :=
  pi_imp (pi_range2 hg hm (pa_cons ha (pa_cons hb pa_nil hs2) (by rw [hs, hs2])) hs hs2) fun σ H R ⟨S, t, A, ds, rp, s, hf, q⟩ => by
    obtain ⟨x, h1, hf⟩ := bind_some hf
    obtain ⟨y, h2, hf⟩ := bind_some hf
    obtain ⟨i, h3, hf⟩ := bind_some hf
    obtain ⟨j, h4, hf⟩ := bind_some hf
    obtain ⟨hc, rfl⟩ := ite_some hf
    refine two ⟨S, t, A, x, y, rp, s, h1, h2, fun v w H2 as bs e r1 r2 => ⟨i, j, by rw [r1.int h3, r2.int h4], hc, q _ H2 e ?_⟩⟩
    exact walkD_fn (ff := fun k => i + (k : Nat)) walk_range
theorem ei_range3 {tg : Expr} {p : Pos} (hg : Gl X "range") (hm : X.mg "range" = none) (ha : EB X a fa) (hb : EB X b fb) (hc : EB X c fc) (hs : starEach [a, b, c] X.env = (false, eval a X.env) :: starEach [b, c] X.env) (hs2 : starEach [b, c] X.env = (false, eval b X.env) :: starEach [c] X.env)
    (hs3 : starEach [c] X.env = [(false, eval c X.env)]) : EI X tg (.Call (.Name "range" p) [a, b, c] [] pos) (wRange3 fa fb fc) :=
  pi_imp (pi_range3 hg hm (pa_cons ha (pa_cons hb (pa_cons hc pa_nil hs3) hs2) hs) hs (by rw [hs2, hs3]; rfl)) fun σ H R ⟨S, t, A, ds, rp, s, hf, q⟩ => by
    obtain ⟨x, h1, hf⟩ := bind_some hf
    obtain ⟨y, h2, hf⟩ := bind_some hf
    obtain ⟨z, h3, hf⟩ := bind_some hf
    obtain ⟨i, h4, hf⟩ := bind_some hf
    obtain ⟨j, h5, hf⟩ := bind_some hf
    obtain ⟨k, h6, hf⟩ := bind_some hf
    obtain ⟨⟨c1, c2, c3, c4⟩, rfl⟩ := ite_some hf
    refine two ⟨S, t, A, x, y, rp, s, h1, h2, fun v w H2 as bs e r1 r2 => ⟨S, t, A, z, rp.same e, hS s e, h3, fun u H3 cs e3 r3 => ?_⟩⟩
    refine ⟨i, j, k, (Builtin.Range.rangeSize i j k).toNat, by rw [r1.int h4, r2.int h5, r3.int h6], ⟨c1, c2, c3, by rw [Int.toNat_of_nonneg c4]⟩, q _ H3 (e.trans e3) ?_⟩
    exact walkD_fn (ff := fun m => i + (m : Nat) * k) walk_rangeC
theorem walkD_pair {J : It} {n : Nat} {G : Hp → Prop} {xs ys : Nat → Option V} {dx dy : Nat → Option D} {ds : List D} (w : Walk J n G (YPair xs ys)) (hl : ds.length = n)
    (hG : ∀ H2, (∀ a o, ¬ S a → H a = some o → H2 a = some o) → G H2) (hd : ∀ (i : Nat) d, ds[i]? = some d → ∃ x y, d = .nd .tup [x, y] ∧ dx i = some x ∧ dy i = some y)
    (rx : ∀ i x v, dx i = some x → xs i = some v → Rep mg S H x v) (ry : ∀ i x v, dy i = some x → ys i = some v → Rep mg S H x v) : WalkD mg S H J ds := by
  refine ⟨_, _, by rw [hl]; exact w, fun S2 H2 h2 hk hn => ⟨hG H2 hk, fun i x H3 d h1 y => ?_⟩⟩
  obtain ⟨T, u, v, rfl, hT, rfl, q1, q2⟩ := y
  obtain ⟨p, q, rfl, p1, p2⟩ := hd i d h1
  have e := same_upd (u := .tup [u, v]) hT
  refine ⟨e, T, [u, v], rfl, fun z => hn T z hT, upd_same, u, [v], rfl, (off1 h2 hk (rx i p u p1 q1)).same e, v, [], rfl, (off1 h2 hk (ry i q v p2 q2)).same e, rfl⟩
theorem ei_zip {tgs : List Expr} {kk : Nat} {p tpos : Pos} (hg : Gl X "zip") (hm : X.mg "zip" = none) (ha : EB X a fa) (hb : EB X b fb) (hs : starEach [a, b] X.env = (false, eval a X.env) :: starEach [b] X.env) (hs2 : starEach [b] X.env = [(false, eval b X.env)]) :
    EI X (.Tuple tgs kk tpos) (.Call (.Name "zip" p) [a, b] [] pos) (wZip fa fb) :=
  pi_imp (pi_zip hg hm (pa_cons ha (pa_cons hb pa_nil hs2) hs) hs (by rw [hs2]; rfl)) fun σ H R ⟨S, t, A, ds, rp, s, hf, q⟩ => by
    obtain ⟨x, h1, hf⟩ := bind_some hf
    obtain ⟨y, h2, hf⟩ := bind_some hf
    refine two ⟨S, t, A, x, y, rp, s, h1, h2, fun v w H2 as bs e r1 r2 => ?_⟩
    split at hf
    · rename_i es fs _
      cases hf
      obtain ⟨_, l, vs, rfl, n1, k1, p1⟩ := r1
      obtain ⟨_, m, us, rfl, n2, k2, p2⟩ := r2
      refine ⟨l, m, vs, us, rfl, SqL.of k1, SqL.of k2, q _ H2 e ?_⟩
      refine walkD_pair (walk_zip (xs := vs) (ys := us) rfl) ?_ (fun H3 hk => ⟨SqL.of (hk l _ n1 k1), SqL.of (hk m _ n2 k2)⟩) (dx := fun i => es[i]?) (dy := fun i => fs[i]?) (fun i d hd => ?_) (fun i x v h1 h2 => ?_) (fun i x v h1 h2 => ?_)
      · rw [List.length_map, List.length_zip, p1.length, p2.length]
      · rw [List.getElem?_map] at hd
        obtain ⟨pr, h3, rfl⟩ := map_some hd
        obtain ⟨z1, z2⟩ := List.getElem?_zip_eq_some.mp h3
        exact ⟨_, _, rfl, z1, z2⟩
      · obtain ⟨w, z1, z2⟩ := p1.get h1
        rw [h2] at z1; cases z1; exact z2
      · obtain ⟨w, z1, z2⟩ := p2.get h1
        rw [h2] at z1; cases z1; exact z2
    · cases hf
theorem ei_enum {tgs : List Expr} {kk : Nat} {p tpos : Pos} (hg : Gl X "enumerate") (hm : X.mg "enumerate" = none) (ha : EB X a fa) (hs : starEach [a] X.env = [(false, eval a X.env)]) :
    EI X (.Tuple tgs kk tpos) (.Call (.Name "enumerate" p) [a] [] pos) (wEnum fa) :=
  pi_imp (pi_enum hg hm (pa_cons ha pa_nil hs) hs) fun σ H R ⟨S, t, A, ds, rp, s, hf, q⟩ => by
    obtain ⟨x, h1, hf⟩ := bind_some hf
    refine ⟨S, t, A, x, rp, s, h1, fun v H1 as e r => ?_⟩
    split at hf
    · rename_i es
      cases hf
      obtain ⟨_, l, vs, rfl, n1, k1, p1⟩ := r
      refine ⟨l, vs, rfl, SqL.of k1, q _ H1 e ?_⟩
      refine walkD_pair (walk_enum (xs := vs)) ?_ (fun H3 hk => SqL.of (hk l _ n1 k1)) (dx := fun i => some (D.int (i : Nat))) (dy := fun i => es[i]?) (fun i d hd => ?_) (fun i x v h1 h2 => ?_) (fun i x v h1 h2 => ?_)
      · rw [List.length_map, List.length_zip, List.length_range, p1.length, Nat.min_self]
      · rw [List.getElem?_map] at hd
        obtain ⟨pr, h3, rfl⟩ := map_some hd
        obtain ⟨z1, z2⟩ := List.getElem?_zip_eq_some.mp h3
        have z3 : i < es.length := by
          have := (List.getElem?_eq_some_iff.mp z1).1
          simpa using this
        rw [List.getElem?_range z3] at z1
        cases z1
        exact ⟨_, _, rfl, by simp, z2⟩
      · cases h1
        cases h2
        rfl
      · obtain ⟨w, z1, z2⟩ := p1.get h1
        rw [h2] at z1; cases z1; exact z2
    · cases hf

/-! ### targets -/
/-- two states alike but at vs -/
def Alike (vs : List Nat) (σ σ' : St) : Prop := σ'.length = σ.length ∧ ∀ j, j ∉ vs → σ'[j]? = σ[j]?
def tG (mg : Str → Option Value) (vs : List Nat) (gd : GE) : TG := fun v σ H Q => ∃ (S : Addr → Prop) (t : Tau) (A : List Addr) (d : D) (t' : Tau), RepSl mg S H t σ A ∧ Rep mg S H d v ∧ gd d t = some t' ∧
  ∀ σ' A', RepSl mg S H t' σ' A' → A'.Sublist A → Alike vs σ σ' → Q σ' H
theorem RepSl.setV {d : D} {v : V} (rd : Rep mg S H d v) : ∀ {t : Tau} {σ : St} {A : List Addr} (i : Nat), RepSl mg S H t σ A → ∃ A', RepSl mg S H (t.set i (some (.val d))) (σ.set i (some v)) A' ∧ A'.Sublist A
  | [], σ, A, i, h => ⟨A, by obtain ⟨h1, h2⟩ := h; subst h1; exact ⟨rfl, h2⟩, List.Sublist.refl _⟩
  | none :: t, σ, A, 0, h => by
    obtain ⟨x, r, h1, h2⟩ := h
    subst h1
    exact ⟨A, ⟨v, r, [], A, rfl, rfl, ⟨rfl, rd⟩, h2⟩, List.Sublist.refl _⟩
  | none :: t, σ, A, i + 1, h => by
    obtain ⟨x, r, h1, h2⟩ := h
    subst h1
    obtain ⟨A', q1, q2⟩ := RepSl.setV rd i h2
    exact ⟨A', ⟨x, _, rfl, q1⟩, q2⟩
  | some o :: t, σ, A, 0, h => by
    obtain ⟨w, r, bs, cs, h1, h2, h3, h4⟩ := h
    subst h1 h2
    exact ⟨cs, ⟨v, r, [], cs, rfl, rfl, ⟨rfl, rd⟩, h4⟩, List.sublist_append_right _ _⟩
  | some o :: t, σ, A, i + 1, h => by
    obtain ⟨w, r, bs, cs, h1, h2, h3, h4⟩ := h
    subst h1 h2
    obtain ⟨A', q1, q2⟩ := RepSl.setV rd i h4
    exact ⟨bs ++ A', ⟨w, _, bs, A', rfl, rfl, h3, q1⟩, List.Sublist.append_left q2 _⟩
theorem alike_set {σ : St} {i : Nat} {x : Option V} {vs : List Nat} (h : i ∈ vs) : Alike vs σ (σ.set i x) := ⟨List.length_set, fun j hj => List.getElem?_set_ne fun e => hj (by rw [← e]; exact h)⟩
theorem Alike.trans {vs : List Nat} {σ σ' σ2 : St} (a : Alike vs σ σ') (b : Alike vs σ' σ2) : Alike vs σ σ2 := ⟨b.1.trans a.1, fun j hj => (b.2 j hj).trans (a.2 j hj)⟩
theorem pg_imp {tg : Expr} {t t' : TG} (h : PG X tg t) (hi : ∀ v σ H Q, t' v σ H Q → t v σ H Q) : PG X tg t' := ⟨fun pins s σ H v u Q I r q => h.run pins s σ H v u Q I r (hi v σ H Q q)⟩
theorem eg_name {tg : Expr} {i : Nat} {vs : List Nat} (hv : i ∈ vs) (h : PG X tg (gName i)) : PG X tg (tG X.mg vs (gN i)) := pg_imp h fun v σ H Q ⟨S, t, A, d, t', rp, rd, hg, q⟩ => by
  cases hg
  obtain ⟨A', q1, q2⟩ := rp.setV rd i
  exact q _ A' q1 q2 (alike_set hv)
/-- the reading of a tuple of names -/
def gNames : List Nat → TGs
  | [] => gNil
  | i :: is => gCons (gName i) (gNames is)
theorem gNames_ok {vs : List Nat} : ∀ {is : List Nat} {ds : List D} {us : List V} {t t' : Tau} {σ : St} {A : List Addr} {Q : St → Hp → Prop}, (∀ i ∈ is, i ∈ vs) → RepSl mg S H t σ A → Reps mg S H ds us → gSet is ds t = some t' →
    (∀ σ' A', RepSl mg S H t' σ' A' → A'.Sublist A → Alike vs σ σ' → Q σ' H) → gNames is us σ H Q
  | [], [], us, t, t', σ, A, Q, hv, rp, rd, hg, q => by
    cases hg
    exact ⟨rd, q σ A rp (List.Sublist.refl _) ⟨rfl, fun _ _ => rfl⟩⟩
  | i :: is, d :: ds, us, t, t', σ, A, Q, hv, rp, rd, hg, q => by
    obtain ⟨v, r, rfl, h1, h2⟩ := rd
    obtain ⟨A1, q1, q2⟩ := rp.setV h1 i
    refine ⟨v, r, rfl, gNames_ok (fun j hj => hv j (List.mem_cons_of_mem _ hj)) q1 h2 hg fun σ' A' a b c => q σ' A' a (b.trans q2) ?_⟩
    exact (alike_set (hv i List.mem_cons_self)).trans c
  | [], d :: ds, us, t, t', σ, A, Q, hv, rp, rd, hg, q => by cases hg
  | i :: is, [], us, t, t', σ, A, Q, hv, rp, rd, hg, q => by cases hg
theorem gSet_len : ∀ {is : List Nat} {ds : List D} {t t' : Tau}, gSet is ds t = some t' → ds.length = is.length
  | [], [], t, t', h => rfl
  | i :: is, d :: ds, t, t', h => by
    rw [List.length_cons, List.length_cons, gSet_len (is := is) (ds := ds) h]
  | [], d :: ds, t, t', h => by cases h
  | i :: is, [], t, t', h => by cases h
theorem eg_tup {tg : Expr} {is vs : List Nat} (hv : ∀ i ∈ is, i ∈ vs) (h : PG X tg (gTup X.K is.length (gNames is))) : PG X tg (tG X.mg vs (gT is)) := pg_imp h fun v σ H Q ⟨S, t, A, d, t', rp, rd, hg, q⟩ => by
  unfold gT at hg
  split at hg
  · rename_i ds
    obtain ⟨a, us, rfl, h2, h3, h4⟩ := rd
    exact ⟨a, us, rfl, SqT.of h3, by rw [h4.length]; exact gSet_len hg, gNames_ok hv rp h4 hg q⟩
  · cases hg

/-! ### comprehensions -/
theorem wipe_get {σ : St} {j : Nat} : ∀ {vs : List Nat}, j ∉ vs → (wipe σ vs)[j]? = σ[j]?
  | [], _ => rfl
  | v :: vs, h => by
    unfold wipe
    rw [List.getElem?_set_ne fun e => h (by rw [e]; exact List.mem_cons_self), wipe_get fun z => h (List.mem_cons_of_mem _ z)]
theorem wipe_in {σ : St} {j : Nat} : ∀ {vs : List Nat}, j ∈ vs → j < σ.length → (wipe σ vs)[j]? = some none
  | v :: vs, h, hl => by
    unfold wipe
    by_cases e : v = j
    · rw [e, List.getElem?_set_self (by rw [wipe_length]; exact hl)]
    · rw [List.getElem?_set_ne e]
      rcases List.mem_cons.mp h with z | z
      · exact absurd z.symm e
      · exact wipe_in z hl
theorem wipe_alike {σ σ' : St} {vs : List Nat} (h : Alike vs σ σ') : wipe σ' vs = wipe σ vs := by
  apply List.ext_getElem?
  intro j
  by_cases hj : j ∈ vs
  · by_cases hl : j < σ.length
    · rw [wipe_in hj hl, wipe_in hj (by rw [h.1]; exact hl)]
    · rw [List.getElem?_eq_none (by rw [wipe_length, h.1]; omega), List.getElem?_eq_none (by rw [wipe_length]; omega)]
  · rw [wipe_get hj, wipe_get hj, h.2 j hj]
theorem RepSl.unset : ∀ {t : Tau} {σ : St} {A : List Addr} (i : Nat), RepSl mg S H t σ A → ∃ A', RepSl mg S H (t.set i none) (σ.set i none) A' ∧ A'.Sublist A
  | [], σ, A, i, h => ⟨A, by obtain ⟨h1, h2⟩ := h; subst h1; exact ⟨rfl, h2⟩, List.Sublist.refl _⟩
  | none :: t, σ, A, 0, h => by
    obtain ⟨x, r, h1, h2⟩ := h
    subst h1
    exact ⟨A, ⟨none, r, rfl, h2⟩, List.Sublist.refl _⟩
  | none :: t, σ, A, i + 1, h => by
    obtain ⟨x, r, h1, h2⟩ := h
    subst h1
    obtain ⟨A', q1, q2⟩ := RepSl.unset i h2
    exact ⟨A', ⟨x, _, rfl, q1⟩, q2⟩
  | some o :: t, σ, A, 0, h => by
    obtain ⟨w, r, bs, cs, h1, h2, h3, h4⟩ := h
    subst h1 h2
    exact ⟨cs, ⟨none, r, rfl, h4⟩, List.sublist_append_right _ _⟩
  | some o :: t, σ, A, i + 1, h => by
    obtain ⟨w, r, bs, cs, h1, h2, h3, h4⟩ := h
    subst h1 h2
    obtain ⟨A', q1, q2⟩ := RepSl.unset i h4
    exact ⟨bs ++ A', ⟨w, _, bs, A', rfl, rfl, h3, q1⟩, List.Sublist.append_left q2 _⟩
theorem RepSl.wipe {t : Tau} {σ : St} {A : List Addr} (h : RepSl mg S H t σ A) : ∀ vs : List Nat, ∃ A', RepSl mg S H (wipeT t vs) (L2.wipe σ vs) A' ∧ A'.Sublist A
  | [] => ⟨A, h, List.Sublist.refl _⟩
  | v :: vs => by
    obtain ⟨A1, q1, q2⟩ := RepSl.wipe h vs
    obtain ⟨A2, q3, q4⟩ := q1.unset v
    exact ⟨A2, q3, q4.trans q2⟩
/-- the reading of a comprehension from what its parts are worth -/
theorem lc_go {w : WE} {vs : List Nat} {gd : GE} {cd : BE} {ed : VE} {σ : St} {H : Hp} {Q : VK} (h : tV mg (vLc w vs gd cd ed) σ H Q) : tLc (tWkC mg w) (tG mg vs gd) (tTs mg cd) (tV mg ed) vs σ H Q := by
  obtain ⟨S, t, A, o, rp, s, hf, q⟩ := h
  obtain ⟨ds, h1, hf⟩ := bind_some hf
  by_cases hb : ds.length ≤ big
  · rw [if_pos hb] at hf
    obtain ⟨xs, h2, rfl⟩ := map_some hf
    refine ⟨S, t, A, ds, rp, s, h1, fun J H1 e1 ⟨G, Y, wk, hw⟩ Dl hD => ?_⟩
    -- the set with the new list
    have hS2 : ∀ a, (S a ∨ a = Dl) → S a ∨ H1 a = none := fun a z => z.elim .inl fun z => .inr (by rw [z]; exact hD)
    obtain ⟨Aw, rw1, _⟩ := rp.wipe vs
    have rw2 := rw1.same e1
    refine lc_it wk (fun i H' => ∃ acc ds1 ds2, Same H1 H' ∧ H' Dl = some (.lst acc) ∧ Reps mg (fun a => S a ∨ a = Dl) H' ds1 acc ∧ acc.length ≤ i ∧ lcItems gd cd ed (wipeT t vs) (ds.drop i) = some ds2 ∧ ds1 ++ ds2 = xs) ?_ (fun i H' hi p => ?_) (fun i x H2 H3 hi p y => ?_) (fun H' p => ?_)
    · exact ⟨[], [], xs, same_upd hD, upd_same, rfl, Nat.zero_le _, h2, rfl⟩
    · obtain ⟨acc, ds1, ds2, e2, hd, _⟩ := p
      exact (hw (fun a => S a ∨ a = Dl) H' hS2 e2 (fun a z => z.elim (fun z n => hS s (e1.trans e2) a z n) fun z n => by rw [z, hd] at n; cases n)).1
    · obtain ⟨acc, ds1, ds2, e2, hd, ra, hl, hi2, hx⟩ := p
      have hdi : ds[i]? = some ds[i] := List.getElem?_eq_getElem hi
      obtain ⟨e3, rx⟩ := (hw (fun a => S a ∨ a = Dl) H2 hS2 e2 (fun a z => z.elim (fun z n => hS s (e1.trans e2) a z n) fun z n => by rw [z, hd] at n; cases n)).2 i x H3 _ hdi y
      rw [List.drop_eq_getElem_cons hi] at hi2
      obtain ⟨t1, g1, hi2⟩ := bind_some hi2
      obtain ⟨k, c1, hi2⟩ := bind_some hi2
      have rs : RepSl mg (fun a => S a ∨ a = Dl) H3 (wipeT t vs) (L2.wipe σ vs) Aw := rw2.offs hS2 (e2.trans e3)
      refine ⟨(fun a => S a ∨ a = Dl), wipeT t vs, Aw, ds[i], t1, rs, rx, g1, fun σ' A' rs' _ al => ⟨?_, ?_⟩⟩
      · rw [wipe_alike al]
        exact wipe_alike ⟨wipe_length σ vs, fun j hj => wipe_get hj⟩
      · have s3 : ∀ a, (S a ∨ a = Dl) → H3 a ≠ none := fun a z => z.elim (fun z n => hS s ((e1.trans e2).trans e3) a z n) fun z n => by rw [z, e3 Dl _ hd] at n; cases n
        refine ⟨_, t1, A', k, rs', s3, c1, fun H4 e4 => ?_⟩
        cases k with
        | false =>
          rw [if_neg (by decide)] at hi2 ⊢
          exact ⟨acc, ds1, ds2, (e2.trans e3).trans e4, e4 Dl _ (e3 Dl _ hd), ra.same (e3.trans e4), Nat.le_succ_of_le hl, hi2, hx⟩
        | true =>
          rw [if_pos rfl] at hi2 ⊢
          obtain ⟨x', x1, hi2⟩ := bind_some hi2
          obtain ⟨ds3, x2, rfl⟩ := map_some hi2
          refine ⟨_, t1, A', x', rs'.same e4, hS s3 e4, x1, fun y' H5 as e5 r5 nd fr => ?_⟩
          have hd5 : H5 Dl = some (.lst acc) := e5 Dl _ (e4 Dl _ (e3 Dl _ hd))
          have lt : acc.length < big := by
            have : i < ds.length := hi
            omega
          refine ⟨acc, hd5, big_line' lt, acc ++ [y'], ds1 ++ [x'.toD], ds3, ?_, upd_same, ?_, ?_, x2, by rw [List.append_assoc]; exact hx⟩
          · intro a u ha
            rw [upd_ne (ne_of_none ha hD)]
            exact ((e2.trans e3).trans (e4.trans e5)) a u ha
          · have kk : ∀ a o, ¬ (S a ∨ a = Dl) → H5 a = some o → upd H5 Dl (.lst (acc ++ [y'])) a = some o := fun a o n z => by
              rw [upd_ne fun e => n (.inr e)]
              exact z
            refine ((ra.same (e3.trans (e4.trans e5))).keep (fun _ z => z) kk).append ⟨y', [], rfl, ?_, rfl⟩
            refine (r5.toD (S' := fun a => S a ∨ a = Dl) (fun _ z => .inl z) fun a ha z => ?_).keep (fun _ z => z) kk
            exact hS s3 e4 a z (fr a ha)
          · rw [List.length_append]
            exact Nat.succ_le_succ hl
    · obtain ⟨acc, ds1, ds2, e2, hd, ra, hl, hi2, hx⟩ := p
      rw [List.drop_length] at hi2
      cases hi2
      rw [List.append_nil] at hx
      subst hx
      refine q (.ref Dl) H' [Dl] (e1.trans e2) ?_ (by simp) fun z hz => ?_
      · exact repO_new (ra.less fun a z => z.elim .inl fun z => .inr (List.mem_singleton.mp z)) hd
      · have : z = Dl := by simpa using hz
        rw [this]
        exact e1.free hD
  · rw [if_neg hb] at hf
    cases hf
end
end Den

/-! Den5: statements. -/
namespace Den
open PySem L2
section
variable {mg : Str → Option Value} {S S' Sc : Addr → Prop} {H H' H0 : Hp}
mutual
theorem Rep.keep2 {S' : Addr → Prop} {H' : Hp} (k1 : ∀ a u, ¬ S a → H a = some u → ¬ S' a ∧ H' a = some u) : ∀ {d : D} {v : V}, Rep mg S H d v → Rep mg S' H' d v
  | .at w, v, h => h
  | .nd k xs, v, h => by
    obtain ⟨a, vs, h1, h2, h3, h4⟩ := h
    obtain ⟨u, hu⟩ := h3.some
    exact ⟨a, vs, h1, (k1 a u h2 hu).1, h3.keep fun o q => (k1 a o h2 q).2, Reps.keep2 k1 h4⟩
theorem Reps.keep2 {S' : Addr → Prop} {H' : Hp} (k1 : ∀ a u, ¬ S a → H a = some u → ¬ S' a ∧ H' a = some u) : ∀ {ds : List D} {vs : List V}, Reps mg S H ds vs → Reps mg S' H' ds vs
  | [], vs, h => h
  | x :: xs, vs, h => by
    obtain ⟨v, r, h1, h2, h3⟩ := h
    exact ⟨v, r, h1, Rep.keep2 k1 h2, Reps.keep2 k1 h3⟩
end
mutual
theorem RepO.keep2 {S' : Addr → Prop} {H' : Hp} (k1 : ∀ a u, ¬ S a → H a = some u → ¬ S' a ∧ H' a = some u) : ∀ {o : O} {v : V} {as : List Addr}, (∀ a ∈ as, ∀ u, H a = some u → H' a = some u) → RepO mg S H o v as → RepO mg S' H' o v as
  | .val d, v, as, k2, h => ⟨h.1, Rep.keep2 k1 h.2⟩
  | .nd k xs, v, as, k2, h => by
    obtain ⟨a, vs, bs, h1, h2, h3, h4⟩ := h
    subst h2
    exact ⟨a, vs, bs, h1, rfl, h3.keep fun o q => k2 a List.mem_cons_self o q, RepOs.keep2 k1 (fun b hb => k2 b (List.mem_cons_of_mem _ hb)) h4⟩
theorem RepOs.keep2 {S' : Addr → Prop} {H' : Hp} (k1 : ∀ a u, ¬ S a → H a = some u → ¬ S' a ∧ H' a = some u) : ∀ {os : List O} {vs : List V} {as : List Addr}, (∀ a ∈ as, ∀ u, H a = some u → H' a = some u) → RepOs mg S H os vs as → RepOs mg S' H' os vs as
  | [], vs, as, k2, h => h
  | x :: xs, vs, as, k2, h => by
    obtain ⟨v, r, bs, cs, h1, h2, h3, h4⟩ := h
    subst h2
    exact ⟨v, r, bs, cs, h1, rfl, RepO.keep2 k1 (fun b hb => k2 b (List.mem_append_left _ hb)) h3, RepOs.keep2 k1 (fun b hb => k2 b (List.mem_append_right _ hb)) h4⟩
end
theorem RepSl.keep2 {S' : Addr → Prop} {H' : Hp} (k1 : ∀ a u, ¬ S a → H a = some u → ¬ S' a ∧ H' a = some u) : ∀ {t : Tau} {σ : St} {as : List Addr}, (∀ a ∈ as, ∀ u, H a = some u → H' a = some u) → RepSl mg S H t σ as → RepSl mg S' H' t σ as
  | [], σ, as, k2, h => h
  | none :: t, σ, as, k2, h => by
    obtain ⟨x, r, h1, h2⟩ := h
    exact ⟨x, r, h1, RepSl.keep2 k1 k2 h2⟩
  | some o :: t, σ, as, k2, h => by
    obtain ⟨v, r, bs, cs, h1, h2, h3, h4⟩ := h
    subst h2
    exact ⟨v, r, bs, cs, h1, rfl, RepO.keep2 k1 (fun b hb => k2 b (List.mem_append_left _ hb)) h3, RepSl.keep2 k1 (fun b hb => k2 b (List.mem_append_right _ hb)) h4⟩
/-- one slot's owned places -/
def ownOf (x : Option O) (sv : Option V) (bs : List Addr) (mg : Str → Option Value) (S : Addr → Prop) (H : Hp) : Prop := match x with
  | none => bs = []
  | some o => ∃ v, sv = some v ∧ RepO mg S H o v bs
/-- one slot and the others -/
theorem RepSl.focus : ∀ {t : Tau} {σ : St} {A : List Addr} {i : Nat} {x : Option O}, RepSl mg S H t σ A → t[i]? = some x → ∃ sv A1 bs A2, σ[i]? = some sv ∧ A = A1 ++ bs ++ A2 ∧ ownOf x sv bs mg S H ∧
    ∀ (S' : Addr → Prop) (H' : Hp) (x' : Option O) (sv' : Option V) (bs' : List Addr), (∀ a u, ¬ S a → H a = some u → ¬ S' a ∧ H' a = some u) → (∀ a ∈ A1 ++ A2, ∀ u, H a = some u → H' a = some u) → ownOf x' sv' bs' mg S' H' →
      RepSl mg S' H' (t.set i x') (σ.set i sv') (A1 ++ bs' ++ A2)
  | [], σ, A, i, x, h, e => by simp at e
  | x0 :: t, σ, A, 0, x, h, e => by
    have ex : x0 = x := by simpa using e
    subst ex
    cases x0 with
    | none =>
      obtain ⟨sv, r, h1, h2⟩ := h
      subst h1
      refine ⟨sv, [], [], A, rfl, rfl, rfl, fun S' H' x' sv' bs' k1 k2 ow => ?_⟩
      have rest : RepSl mg S' H' t r A := RepSl.keep2 k1 k2 h2
      cases x' with
      | none =>
        have e : bs' = [] := ow
        subst e
        exact ⟨sv', r, rfl, rest⟩
      | some o' =>
        obtain ⟨v', rfl, ro⟩ := ow
        exact ⟨v', r, bs', A, rfl, rfl, ro, rest⟩
    | some o =>
      obtain ⟨v, r, bs, cs, h1, h2, h3, h4⟩ := h
      subst h1 h2
      refine ⟨some v, [], bs, cs, rfl, rfl, ⟨v, rfl, h3⟩, fun S' H' x' sv' bs' k1 k2 ow => ?_⟩
      have rest : RepSl mg S' H' t r cs := RepSl.keep2 k1 k2 h4
      cases x' with
      | none =>
        have e : bs' = [] := ow
        subst e
        exact ⟨sv', r, rfl, rest⟩
      | some o' =>
        obtain ⟨v', rfl, ro⟩ := ow
        exact ⟨v', r, bs', cs, rfl, rfl, ro, rest⟩
  | none :: t, σ, A, i + 1, x, h, e => by
    obtain ⟨sv0, r, h1, h2⟩ := h
    subst h1
    obtain ⟨sv, A1, bs, A2, q1, q2, q3, q4⟩ := RepSl.focus (i := i) (x := x) h2 (by simpa using e)
    refine ⟨sv, A1, bs, A2, by simpa using q1, q2, q3, fun S' H' x' sv' bs' k1 k2 ow => ⟨sv0, _, rfl, q4 S' H' x' sv' bs' k1 k2 ow⟩⟩
  | some o :: t, σ, A, i + 1, x, h, e => by
    obtain ⟨v, r, cs, ds, h1, h2, h3, h4⟩ := h
    subst h1 h2
    obtain ⟨sv, A1, bs, A2, q1, q2, q3, q4⟩ := RepSl.focus (i := i) (x := x) h4 (by simpa using e)
    subst q2
    refine ⟨sv, cs ++ A1, bs, A2, by simpa using q1, by simp [List.append_assoc], q3, fun S' H' x' sv' bs' k1 k2 ow => ?_⟩
    refine ⟨v, _, cs, A1 ++ bs' ++ A2, rfl, by simp [List.append_assoc], ?_, q4 S' H' x' sv' bs' k1 (fun a ha => k2 a (by rw [List.append_assoc]; exact List.mem_append_right _ ha)) ow⟩
    exact RepO.keep2 k1 (fun a ha => k2 a (by rw [List.append_assoc]; exact List.mem_append_left _ ha)) h3

/-! ### the state of a body -/
/-- t tells the slots; what is owned is new since H0, the rest of H0 stands -/
def J (mg : Str → Option Value) (Sc : Addr → Prop) (H0 : Hp) (t : Tau) (σ : St) (H : Hp) : Prop := ∃ A : List Addr, RepSl mg (fun a => Sc a ∨ a ∈ A) H t σ A ∧ A.Nodup ∧ (∀ a ∈ A, H0 a = none) ∧ Same H0 H ∧ ∀ a, Sc a → H0 a ≠ none
theorem J.in {t : Tau} {σ : St} {A : List Addr} (r : RepSl mg (fun a => Sc a ∨ a ∈ A) H t σ A) (e : Same H0 H) (hs : ∀ a, Sc a → H0 a ≠ none) : ∀ a, (Sc a ∨ a ∈ A) → H a ≠ none := fun a z n => by
  rcases z with z | z
  · exact hs a z (e.free n)
  · obtain ⟨u, hu⟩ := r.there a z
    rw [n] at hu
    cases hu
theorem J.same {t : Tau} {σ : St} (h : J mg Sc H0 t σ H) (e : Same H H') : J mg Sc H0 t σ H' := by
  obtain ⟨A, r, nd, fr, e0, hs⟩ := h
  exact ⟨A, r.same e, nd, fr, e0.trans e, hs⟩
theorem J.len {t : Tau} {σ : St} (h : J mg Sc H0 t σ H) : σ.length = t.length := by
  obtain ⟨A, r, _⟩ := h
  exact r.length
/-- a slot gets a new thing -/
theorem J.set {t : Tau} {σ : St} {A as : List Addr} {i : Nat} {o : O} {v : V} (r : RepSl mg (fun a => Sc a ∨ a ∈ A) H t σ A) (nd : A.Nodup) (fr : ∀ a ∈ A, H0 a = none) (e0 : Same H0 H) (hs : ∀ a, Sc a → H0 a ≠ none) (e : Same H H')
    (ro : RepO mg (fun a => (Sc a ∨ a ∈ A) ∨ a ∈ as) H' o v as) (nd' : as.Nodup) (fr' : ∀ a ∈ as, H a = none) : J mg Sc H0 (t.set i (some o)) (σ.set i (some v)) H' := by
  by_cases hi : i < t.length
  · obtain ⟨sv, A1, bs, A2, q1, q2, q3, q4⟩ := r.focus (List.getElem?_eq_getElem hi)
    subst q2
    have n2 := List.nodup_append.mp nd
    have n1 := List.nodup_append.mp n2.1
    refine ⟨A1 ++ as ++ A2, q4 _ H' (some o) (some v) as (fun a u ns hu => ⟨fun z => ?_, e a u hu⟩) (fun a _ u hu => e a u hu) ⟨v, rfl, ro.less fun a z => ?_⟩, ?_, fun a ha => ?_, e0.trans e, hs⟩
    · rcases z with z | z
      · exact ns (.inl z)
      · rcases List.mem_append.mp z with z | z
        · rcases List.mem_append.mp z with z | z
          · exact ns (.inr (List.mem_append_left _ (List.mem_append_left _ z)))
          · rw [fr' a z] at hu; cases hu
        · exact ns (.inr (List.mem_append_right _ z))
    · rcases z with z | z
      · exact .inl (.inl z)
      · rcases List.mem_append.mp z with z | z
        · rcases List.mem_append.mp z with z | z
          · exact .inl (.inr (List.mem_append_left _ (List.mem_append_left _ z)))
          · exact .inr z
        · exact .inl (.inr (List.mem_append_right _ z))
    · have hx : ∀ a ∈ as, ∀ b, b ∈ A1 ++ bs ++ A2 → a ≠ b := fun a ha b hb z => by
        subst z
        obtain ⟨u, hu⟩ := r.there a hb
        rw [fr' a ha] at hu
        cases hu
      refine List.nodup_append.mpr ⟨List.nodup_append.mpr ⟨n1.1, nd', fun a ha b hb z => hx b hb a (List.mem_append_left _ (List.mem_append_left _ ha)) z.symm⟩, n2.2.1, fun a ha b hb z => ?_⟩
      rcases List.mem_append.mp ha with ha | ha
      · exact n2.2.2 a (List.mem_append_left _ ha) b hb z
      · exact hx a ha b (List.mem_append_right _ hb) z
    · rcases List.mem_append.mp ha with ha | ha
      · rcases List.mem_append.mp ha with ha | ha
        · exact fr a (List.mem_append_left _ (List.mem_append_left _ ha))
        · exact e0.free (fr' a ha)
      · exact fr a (List.mem_append_right _ ha)
  · rw [List.set_eq_of_length_le (by omega), List.set_eq_of_length_le (by rw [r.length]; omega)]
    exact ⟨A, r.same e, nd, fr, e0.trans e, hs⟩
/-- a slot is read as shared from now on -/
theorem J.fz1 {t : Tau} {σ : St} {i : Nat} {o : O} (h : J mg Sc H0 t σ H) (hi : t[i]? = some (some o)) : J mg Sc H0 (t.set i (some o.fz)) σ H := by
  obtain ⟨A, r, nd, fr, e0, hs⟩ := h
  obtain ⟨sv, A1, bs, A2, q1, q2, q3, q4⟩ := r.focus hi
  obtain ⟨v, rfl, ro⟩ := q3
  subst q2
  have n2 := List.nodup_append.mp nd
  have n1 := List.nodup_append.mp n2.1
  have hsub : ∀ a, (Sc a ∨ a ∈ A1 ++ [] ++ A2) → Sc a ∨ a ∈ A1 ++ bs ++ A2 := fun a z => z.elim .inl fun z => .inr (by
    rw [List.append_nil] at z
    rcases List.mem_append.mp z with z | z
    · exact List.mem_append_left _ (List.mem_append_left _ z)
    · exact List.mem_append_right _ z)
  have hb : ∀ b ∈ bs, ¬ (Sc b ∨ b ∈ A1 ++ [] ++ A2) := fun b hb z => by
    rcases z with z | z
    · exact hs b z (fr b (List.mem_append_left _ (List.mem_append_right _ hb)))
    · rw [List.append_nil] at z
      rcases List.mem_append.mp z with z | z
      · exact n1.2.2 b z b hb rfl
      · exact n2.2.2 b (List.mem_append_right _ hb) b z rfl
  have q5 := q4 (fun a => Sc a ∨ a ∈ A1 ++ [] ++ A2) H (some o.fz) (some v) [] (fun a u ns hu => ⟨fun z => ns (hsub a z), hu⟩) (fun a _ u hu => hu) ⟨v, rfl, rfl, ro.toD hsub hb⟩
  have eσ : σ.set i (some v) = σ := by
    obtain ⟨h1, h2⟩ := List.getElem?_eq_some_iff.mp q1
    rw [← h2]
    exact List.set_getElem_self h1
  rw [eσ] at q5
  refine ⟨A1 ++ [] ++ A2, q5, ?_, fun a ha => ?_, e0, hs⟩
  · rw [List.append_nil]
    exact List.nodup_append.mpr ⟨n1.1, n2.2.1, fun a ha b hb => n2.2.2 a (List.mem_append_left _ ha) b hb⟩
  · rcases hsub a (.inr ha) with z | z
    · rw [List.append_nil] at ha
      rcases List.mem_append.mp ha with ha | ha
      · exact fr a (List.mem_append_left _ (List.mem_append_left _ ha))
      · exact fr a (List.mem_append_right _ ha)
    · exact fr a z
theorem J.fz {σ : St} : ∀ {is : List Nat} {t : Tau}, J mg Sc H0 t σ H → J mg Sc H0 (fzAt t is) σ H
  | [], t, h => h
  | i :: is, t, h => by
    unfold fzAt
    refine J.fz ?_
    split
    · rename_i o ho
      exact h.fz1 ho
    · exact h
theorem RepSl.fzAll : ∀ {t : Tau} {σ : St} {A : List Addr}, (∀ a ∈ A, ¬ S' a) → (∀ a, S' a → S a) → RepSl mg S H t σ A → RepSl mg S' H (Den.fzAll t) σ []
  | [], σ, A, _, _, h => ⟨h.1, rfl⟩
  | none :: t, σ, A, hA, hs, h => by
    obtain ⟨x, r, h1, h2⟩ := h
    exact ⟨x, r, h1, RepSl.fzAll hA hs h2⟩
  | some o :: t, σ, A, hA, hs, h => by
    obtain ⟨v, r, bs, cs, h1, h2, h3, h4⟩ := h
    subst h2
    exact ⟨v, r, [], [], h1, rfl, ⟨rfl, h3.toD hs fun a ha => hA a (List.mem_append_left _ ha)⟩, RepSl.fzAll (fun a ha => hA a (List.mem_append_right _ ha)) hs h4⟩
end
end Den

/-! Den6: the rules of statements. -/
namespace Den
open PySem L2
def Fin (mg : Str → Option Value) (Sc : Addr → Prop) (H0 : Hp) (De : Ends) : Out → Prop
  | .nx t => ∀ σ H, J mg Sc H0 t σ H → De.nx σ H
  | .bk t => ∀ σ H, J mg Sc H0 t σ H → De.bk σ H
  | .ct t => ∀ σ H, J mg Sc H0 t σ H → De.ct σ H
  | .rt o => ∀ v H as, Same H0 H → RepO mg (fun a => Sc a ∨ a ∈ as) H o v as → as.Nodup → (∀ a ∈ as, H0 a = none) → De.rt v H
def tS (mg : Str → Option Value) (f : SE) : TS := fun De σ H => ∃ (Sc : Addr → Prop) (H0 : Hp) (t : Tau) (out : Out), J mg Sc H0 t σ H ∧ f t = some out ∧ Fin mg Sc H0 De out
abbrev ES (X : Cx) (st : Stmt) (f : SE) : Prop := PS X st (tS X.mg f)
abbrev ESs (X : Cx) (st : List Stmt) (f : SE) : Prop := PSs X st (tS X.mg f)
section
variable {X : Cx} {e a b c : Expr} {es : List Expr} {f fa fb fc g : VE} {pos : Pos} {st : Stmt} {sts : List Stmt} {s1 s2 : SE}
variable {mg : Str → Option Value} {S S' Sc : Addr → Prop} {H H' H0 : Hp}
theorem es_fz {fz : List Nat} (h : ES X st s1) : ES X st (sFz fz s1) := ps_imp h fun De σ H ⟨Sc, H0, t, out, j, hf, q⟩ => ⟨Sc, H0, fzAt t fz, out, j.fz, hf, q⟩
theorem es_pass : ES X (.Pass pos) sNext := ps_imp ps_pass fun De σ H ⟨Sc, H0, t, out, j, hf, q⟩ => by
  cases hf
  exact q σ H j
theorem es_break : ES X (.Break pos) sBreak := ps_imp ps_break fun De σ H ⟨Sc, H0, t, out, j, hf, q⟩ => by
  cases hf
  exact q σ H j
theorem es_cont : ES X (.Continue pos) sCont := ps_imp ps_continue fun De σ H ⟨Sc, H0, t, out, j, hf, q⟩ => by
  cases hf
  exact q σ H j
theorem ess_nil : ESs X [] sNext := pss_imp pss_nil fun De σ H ⟨Sc, H0, t, out, j, hf, q⟩ => by
  cases hf
  exact q σ H j
theorem ess_cons (h1 : ES X st s1) (h2 : ESs X sts s2) : ESs X (st :: sts) (sSeq s1 s2) := pss_imp (pss_cons h1 h2) fun De σ H ⟨Sc, H0, t, out, j, hf, q⟩ => by
  obtain ⟨o, h1, hf⟩ := bind_some hf
  refine ⟨Sc, H0, t, o, j, h1, ?_⟩
  cases o with
  | nx t' => exact fun σ' H' j' => ⟨Sc, H0, t', out, j', hf, q⟩
  | bk t' => cases hf; exact q
  | ct t' => cases hf; exact q
  | rt o => cases hf; exact q
/-- an expression's value is at hand behind it -/
theorem at_v {f : VE} {t : Tau} {σ : St} {o : O} {Q : VK} (j : J mg Sc H0 t σ H) (hf : f t = some o)
    (q : ∀ v H' A as, RepSl mg (fun a => Sc a ∨ a ∈ A) H t σ A → A.Nodup → (∀ a ∈ A, H0 a = none) → Same H0 H → (∀ a, Sc a → H0 a ≠ none) → Same H H' → RepO mg (fun a => (Sc a ∨ a ∈ A) ∨ a ∈ as) H' o v as → as.Nodup → (∀ a ∈ as, H a = none) → Q v H') : tV mg f σ H Q := by
  obtain ⟨A, r, nd, fr, e0, hs⟩ := j
  exact ⟨_, t, A, o, r, J.in r e0 hs, hf, fun v H' as e ro nd' fr' => q v H' A as r nd fr e0 hs e ro nd' fr'⟩
theorem at_b {f : VE} {t : Tau} {σ : St} {o : O} {Q : VK} (j : J mg Sc H0 t σ H) (hf : f t = some o)
    (q : ∀ v H' A as, RepSl mg (fun a => Sc a ∨ a ∈ A) H t σ A → A.Nodup → (∀ a ∈ A, H0 a = none) → Same H0 H → (∀ a, Sc a → H0 a ≠ none) → Same H H' → RepO mg (fun a => Sc a ∨ a ∈ A) H' o v as → Q v H') : tBr mg f σ H Q := by
  obtain ⟨A, r, nd, fr, e0, hs⟩ := j
  exact ⟨_, t, A, o, r, J.in r e0 hs, hf, fun v H' as e ro => q v H' A as r nd fr e0 hs e ro⟩
theorem at_t {f : BE} {t : Tau} {σ : St} {k : Bool} {Q : Bool → Hp → Prop} (j : J mg Sc H0 t σ H) (hf : f t = some k) (q : ∀ H', Same H H' → J mg Sc H0 t σ H' → Q k H') : tTs mg f σ H Q := by
  have j0 := j
  obtain ⟨A, r, nd, fr, e0, hs⟩ := j
  exact ⟨_, t, A, k, r, J.in r e0 hs, hf, fun H' e => q H' e (j0.same e)⟩
theorem es_asg {i : Nat} (h : PS X st (tAsg (tV X.mg f) (gName i))) : ES X st (sAsg i f) := ps_imp h fun De σ H ⟨Sc, H0, t, out, j, hf, q⟩ => by
  obtain ⟨o, h1, rfl⟩ := map_some hf
  exact at_v j h1 fun v H' A as r nd fr e0 hs e ro nd' fr' => q _ H' (J.set r nd fr e0 hs e ro nd' fr')
theorem es_drop (h : PS X st (tDrop (tV X.mg f))) : ES X st (sDrop f) := ps_imp h fun De σ H ⟨Sc, H0, t, out, j, hf, q⟩ => by
  obtain ⟨o, h1, rfl⟩ := map_some hf
  exact at_v j h1 fun v H' A as r nd fr e0 hs e ro nd' fr' => q _ H' (j.same e)
theorem es_if {ba : BE} {sa sb : List Stmt} (hc : ET X c ba) (h1 : ESs X sa s1) (h2 : ESs X sb s2) : ES X (.If c sa sb pos) (sIf ba s1 s2) := ps_imp (ps_if hc h1 h2) fun De σ H ⟨Sc, H0, t, out, j, hf, q⟩ => by
  obtain ⟨k, h1, hf⟩ := bind_some hf
  refine at_t j h1 fun H' e j' => ?_
  cases k with
  | true => exact ⟨Sc, H0, t, out, j', hf, q⟩
  | false => exact ⟨Sc, H0, t, out, j', hf, q⟩
theorem es_ret (h : EV X a fa) : ES X (.Return (some a) pos) (sRet fa) := ps_imp (ps_ret h) fun De σ H ⟨Sc, H0, t, out, j, hf, q⟩ => by
  obtain ⟨o, h1, rfl⟩ := map_some hf
  obtain ⟨A, r, nd, fr, e0, hs⟩ := j
  have r' : RepSl X.mg Sc H (fzAll t) σ [] := r.fzAll (fun a ha z => hs a z (fr a ha)) (fun a z => .inl z)
  exact ⟨Sc, fzAll t, [], o, r', fun a z n => hs a z (e0.free n), h1, fun v H' as e ro nd' fr' => q v H' as (e0.trans e) ro nd' fun a ha => e0.free (fr' a ha)⟩
theorem es_retN {i : Nat} (h : PE X a (tVar i)) : ES X (.Return (some a) pos) (sRetN i) := ps_imp (ps_ret h) fun De σ H ⟨Sc, H0, t, out, j, hf, q⟩ => by
  obtain ⟨o, h1, rfl⟩ := map_some hf
  obtain ⟨A, r, nd, fr, e0, hs⟩ := j
  obtain ⟨sv, A1, bs, A2, q1, q2, ⟨v, rfl, ro⟩, q4⟩ := r.focus (bVar_some h1)
  subst q2
  have hb : ∀ b ∈ bs, b ∈ A1 ++ bs ++ A2 := fun b hb => List.mem_append_left _ (List.mem_append_right _ hb)
  refine ⟨v, q1, q v H bs e0 (ro.less fun a z => z.elim .inl fun z => .inr (hb a z)) ?_ fun a ha => fr a (hb a ha)⟩
  exact (List.nodup_append.mp (List.nodup_append.mp nd).1).2.1
/-! ### several at once -/
theorem vAll_go {mg : Str → Option Value} {fs : List VE} {t : Tau} {σ : St} {os : List O} {Q : List V → Hp → Prop} (j : J mg Sc H0 t σ H) (hf : vAll fs t = some os)
    (q : ∀ vs H' A as, RepSl mg (fun a => Sc a ∨ a ∈ A) H t σ A → A.Nodup → (∀ a ∈ A, H0 a = none) → Same H0 H → (∀ a, Sc a → H0 a ≠ none) → Same H H' → RepOs mg (fun a => (Sc a ∨ a ∈ A) ∨ a ∈ as) H' os vs as → as.Nodup → (∀ a ∈ as, H a = none) → Q vs H') : tVs mg fs σ H Q := by
  obtain ⟨A, r, nd, fr, e0, hs⟩ := j
  exact ⟨_, t, A, os, r, J.in r e0 hs, hf, fun v H' as e ro nd' fr' => q v H' A as r nd fr e0 hs e ro nd' fr'⟩
/-- slots get new things, one by one -/
theorem J.sets {T : Addr → Prop} (hT : ∀ a, Sc a → T a) (e0 : Same H0 H) (hs : ∀ a, Sc a → H0 a ≠ none) : ∀ {is : List Nat} {os : List O} {vs : List V} {as : List Addr} {t t' : Tau} {σ : St} {A : List Addr}, RepSl mg T H t σ A → RepOs mg T H os vs as → (∀ a ∈ A ++ as, T a) → (A ++ as).Nodup → (∀ a ∈ A ++ as, H0 a = none) →
    setAll is os t = some t' → J mg Sc H0 t' (List.foldl (fun s (p : Nat × V) => s.set p.1 (some p.2)) σ (is.zip vs)) H
  | [], [], vs, as, t, t', σ, A, r, ro, ht, nd, fr, hf => by
    cases hf
    exact ⟨A, r.less fun a z => z.elim (hT a) fun z => ht a (List.mem_append_left _ z), (List.nodup_append.mp nd).1, fun a ha => fr a (List.mem_append_left _ ha), e0, hs⟩
  | i :: is, o :: os, vs, as, t, t', σ, A, r, ro, ht, nd, fr, hf => by
    obtain ⟨v, vr, bs, cs, rfl, rfl, h3, h4⟩ := ro
    show J mg Sc H0 t' (List.foldl _ (σ.set i (some v)) (is.zip vr)) H
    by_cases hi : i < t.length
    · obtain ⟨sv, A1, ds, A2, q1, q2, q3, q4⟩ := r.focus (List.getElem?_eq_getElem hi)
      subst q2
      have q5 := q4 T H (some o) (some v) bs (fun a u n h => ⟨n, h⟩) (fun a _ u h => h) ⟨v, rfl, h3⟩
      have sub : ∀ a, a ∈ A1 ++ bs ++ A2 ++ cs → a ∈ A1 ++ ds ++ A2 ++ (bs ++ cs) := fun a z => by
        simp only [List.mem_append] at z ⊢
        rcases z with ((z | z) | z) | z
        · exact .inl (.inl (.inl z))
        · exact .inr (.inl z)
        · exact .inl (.inr z)
        · exact .inr (.inr z)
      refine J.sets hT e0 hs q5 h4 (fun a ha => ht a (sub a ha)) ?_ (fun a ha => fr a (sub a ha)) hf
      simp only [List.nodup_append, List.mem_append] at nd ⊢
      obtain ⟨⟨⟨n1, n2, n3⟩, n4, n5⟩, ⟨n6, n7, n8⟩, n9⟩ := nd
      refine ⟨⟨⟨n1, n6, fun a ha b hb => n9 a (.inl (.inl ha)) b (.inl hb)⟩, n4, fun a ha b hb => ?_⟩, n7, fun a ha b hb => ?_⟩
      · rcases ha with ha | ha
        · exact n5 a (.inl ha) b hb
        · exact fun z => n9 b (.inr hb) a (.inl ha) z.symm
      · rcases ha with (ha | ha) | ha
        · exact n9 a (.inl (.inl ha)) b (.inr hb)
        · exact n8 a ha b hb
        · exact n9 a (.inr ha) b (.inr hb)
    · have e1 : t.set i (some o) = t := List.set_eq_of_length_le (by omega)
      have e2 : σ.set i (some v) = σ := List.set_eq_of_length_le (by rw [r.length]; omega)
      have hf' : setAll is os t = some t' := by
        have : setAll is os (t.set i (some o)) = some t' := hf
        rw [e1] at this
        exact this
      rw [e2]
      have sub : ∀ a, a ∈ A ++ cs → a ∈ A ++ (bs ++ cs) := fun a z => by
        simp only [List.mem_append] at z ⊢
        exact z.elim .inl fun z => .inr (.inr z)
      refine J.sets hT e0 hs r h4 (fun a ha => ht a (sub a ha)) ?_ (fun a ha => fr a (sub a ha)) hf'
      simp only [List.nodup_append, List.mem_append] at nd ⊢
      obtain ⟨n1, ⟨n2, n3, n4⟩, n5⟩ := nd
      exact ⟨n1, n3, fun a ha b hb => n5 a ha b (.inr hb)⟩
  | [], o :: os, vs, as, t, t', σ, A, r, ro, ht, nd, fr, hf => by cases hf
  | i :: is, [], vs, as, t, t', σ, A, r, ro, ht, nd, fr, hf => by cases hf
theorem par_go {is : List Nat} {fs : List VE} {De : Ends} {σ : St} (h : tS mg (sPar is fs) De σ H) : tVs mg fs σ H fun vs H1 => vs.length = is.length ∧ De.nx (List.foldl (fun s (p : Nat × V) => s.set p.1 (some p.2)) σ (is.zip vs)) H1 := by
  obtain ⟨Sc, H0, t, out, j, hf, q⟩ := h
  obtain ⟨os, h1, hf⟩ := bind_some hf
  obtain ⟨t', h2, rfl⟩ := map_some hf
  refine vAll_go j h1 fun vs H' A as r nd fr e0 hs e ro nd' fr' => ⟨?_, q _ H' ?_⟩
  · rw [ro.length]
    exact setLen h2
  · refine J.sets (T := fun a => (Sc a ∨ a ∈ A) ∨ a ∈ as) (fun a z => .inl (.inl z)) (e0.trans e) hs (r.offs (fun a z => z.elim .inl fun z => .inr (fr' a z)) e) ro (fun a ha => ?_) ?_ (fun a ha => ?_) h2
    · rcases List.mem_append.mp ha with z | z
      · exact .inl (.inr z)
      · exact .inr z
    · refine List.nodup_append.mpr ⟨nd, nd', fun a ha b hb z => ?_⟩
      subst z
      obtain ⟨u, hu⟩ := r.there a ha
      rw [fr' a hb] at hu
      cases hu
    · rcases List.mem_append.mp ha with z | z
      · exact fr a z
      · exact e0.free (fr' a z)
where
  setLen : ∀ {is : List Nat} {os : List O} {t t' : Tau}, setAll is os t = some t' → os.length = is.length
    | [], [], t, t', h => rfl
    | i :: is, o :: os, t, t', h => by rw [List.length_cons, List.length_cons, setLen (is := is) (os := os) h]
    | [], o :: os, t, t', h => by cases h
    | i :: is, [], t, t', h => by cases h
theorem es_par2 {i j : Nat} {fs : List VE} (h : PS X st (tPar i j (tVs X.mg fs))) : ES X st (sPar [i, j] fs) := ps_imp h fun De σ H hq => by
  obtain ⟨S, t, A, os, r, s, hf, q⟩ := par_go hq
  refine ⟨S, t, A, os, r, s, hf, fun vs H' as e ro nd fr => ?_⟩
  obtain ⟨hl, hn⟩ := q vs H' as e ro nd fr
  match vs, hl, hn with
  | [v, w], _, hn => exact ⟨v, w, rfl, hn⟩
theorem es_par3 {i j l : Nat} {fs : List VE} (h : PS X st (tPar3 i j l (tVs X.mg fs))) : ES X st (sPar [i, j, l] fs) := ps_imp h fun De σ H hq => by
  obtain ⟨S, t, A, os, r, s, hf, q⟩ := par_go hq
  refine ⟨S, t, A, os, r, s, hf, fun vs H' as e ro nd fr => ?_⟩
  obtain ⟨hl, hn⟩ := q vs H' as e ro nd fr
  match vs, hl, hn with
  | [v, w, u], _, hn => exact ⟨v, w, u, rfl, hn⟩
/-- a tuple made and unpacked -/
theorem gNames_at : ∀ {is : List Nat} {vs : List V} {σ : St} {Q : St → Hp → Prop}, vs.length = is.length → Q (List.foldl (fun s (p : Nat × V) => s.set p.1 (some p.2)) σ (is.zip vs)) H → gNames is vs σ H Q
  | [], [], σ, Q, _, q => ⟨rfl, q⟩
  | i :: is, v :: vs, σ, Q, hl, q => ⟨v, vs, rfl, gNames_at (by simpa using hl) q⟩
  | [], v :: vs, σ, Q, hl, q => by simp at hl
  | i :: is, [], σ, Q, hl, q => by simp at hl
theorem es_parN {is : List Nat} {fs : List VE} (hn : is.length ≤ big) (h : PS X st (tAsg (tTup (tVs X.mg fs)) (gTup X.K is.length (gNames is)))) : ES X st (sPar is fs) := ps_imp h fun De σ H hq => by
  have hq' := hq
  obtain ⟨Sc, H0, t, out, j, hf, q⟩ := hq
  obtain ⟨os, h1, hf⟩ := bind_some hf
  obtain ⟨t', h2, rfl⟩ := map_some hf
  refine vAll_go j h1 fun vs H' A as r nd fr e0 hs e ro nd' fr' => ?_
  have hl : vs.length = is.length := by rw [ro.length]; exact par_go.setLen h2
  refine ⟨by rw [hl]; exact big_line hn, fun p hp => ⟨p, vs, rfl, SqT.of upd_same, hl, gNames_at hl (q _ _ ?_)⟩⟩
  have e2 : Same H' (upd H' p (.tup vs)) := same_upd hp
  refine J.sets (T := fun a => (Sc a ∨ a ∈ A) ∨ a ∈ as) (fun a z => .inl (.inl z)) ((e0.trans e).trans e2) hs (r.offs (fun a z => z.elim .inl fun z => .inr (fr' a z)) (e.trans e2)) (ro.same e2) (fun a ha => ?_) ?_ (fun a ha => ?_) h2
  · rcases List.mem_append.mp ha with z | z
    · exact .inl (.inr z)
    · exact .inr z
  · refine List.nodup_append.mpr ⟨nd, nd', fun a ha b hb z => ?_⟩
    subst z
    obtain ⟨u, hu⟩ := r.there a ha
    rw [fr' a hb] at hu
    cases hu
  · rcases List.mem_append.mp ha with z | z
    · exact fr a z
    · exact e0.free (fr' a z)
/-- a shared thing unpacked, a loop's target -/
theorem J.target {gd : GE} {d : D} {v : V} {t t' : Tau} {σ : St} {vs : List Nat} {g : TG} {Q : St → Hp → Prop} {A : List Addr} (hg : ∀ v σ H Q, tG mg vs gd v σ H Q → g v σ H Q) (r : RepSl mg (fun a => Sc a ∨ a ∈ A) H t σ A) (nd : A.Nodup) (fr : ∀ a ∈ A, H0 a = none) (e0 : Same H0 H) (hs : ∀ a, Sc a → H0 a ≠ none)
    (rd : Rep mg (fun a => Sc a ∨ a ∈ A) H d v) (h : gd d t = some t') (q : ∀ σ', J mg Sc H0 t' σ' H → Q σ' H) : g v σ H Q := by
  refine hg v σ H Q ⟨_, t, A, d, t', r, rd, h, fun σ' A' r' sub _ => q σ' ?_⟩
  exact ⟨A', r'.less fun a z => z.elim .inl fun z => .inr (sub.subset z), nd.sublist sub, fun a ha => fr a (sub.subset ha), e0, hs⟩
theorem es_unp {is : List Nat} {te : TE} (hte : PS X st (tAsg (tBr X.mg f) (gTup X.K is.length (gNames is)))) : ES X st (sUnp is f) := ps_imp hte fun De σ H ⟨Sc, H0, t, out, j, hf, q⟩ => by
  obtain ⟨o, h1, hf⟩ := bind_some hf
  refine at_b j h1 fun v H' A as r nd fr e0 hs e ro => ?_
  split at hf
  · rename_i d
    obtain ⟨t', h2, rfl⟩ := map_some hf
    unfold gT at h2
    split at h2
    · obtain ⟨_, a, us, rfl, n1, k1, p1⟩ := ro
      refine ⟨a, us, rfl, SqT.of k1, by rw [p1.length]; exact gSet_len h2, ?_⟩
      refine gNames_ok (vs := is) (fun i hi => hi) (r.same e) p1 h2 fun σ' A' r' sub _ => q σ' H' ?_
      exact ⟨A', r'.less fun a z => z.elim .inl fun z => .inr (sub.subset z), nd.sublist sub, fun a ha => fr a (sub.subset ha), e0.trans e, hs⟩
    · cases h2
  · cases hf
/-! ### loops -/
/-- what is not owned now, and nothing else -/
def shut (H : Hp) (A : List Addr) : Hp := fun a => if a ∈ A then none else H a
theorem es_for {w : WE} {gd : GE} {vs : List Nat} {tg iter : Expr} {body : List Stmt} (hx : X.xe = fun _ _ => False) (hc : X.calm = true) (hi : EI X tg iter w) (hg : PG X tg (tG X.mg vs gd)) (hb : ESs X body s1) (hs : ∀ x, foldedSetIterable iter X.env x = pure x) :
    ES X (.For tg iter body [] pos) (sFor w gd s1) := by
  refine ps_imp (ps_for (by rw [hx]; exact PassesOwn.never) hc hi hg hb hs) fun De σ H ⟨Sc, H0, t, out, j, hf, q⟩ => ?_
  obtain ⟨ds, h1, hf⟩ := bind_some hf
  obtain ⟨A, r, nd, fr, e0, hsc⟩ := j
  refine ⟨_, t, A, ds, r, J.in r e0 hsc, h1, fun J1 H1 e1 ⟨G, Y, wk, hw⟩ => ?_⟩
  have r1 := r.same e1
  -- from here on all that is not owned stands
  have sh0 : Same H0 (shut H1 A) := fun b o z => by
    unfold shut
    rw [if_neg fun h => by rw [fr b h] at z; cases z]
    exact e1 b o (e0 b o z)
  have hsc' : ∀ a, Sc a → shut H1 A a ≠ none := fun a z n => hsc a z (sh0.free n)
  have j1 : J X.mg Sc (shut H1 A) t σ H1 := by
    refine ⟨A, r1, nd, fun a ha => by unfold shut; rw [if_pos ha], fun b o z => ?_, hsc'⟩
    unfold shut at z
    split at z
    · cases z
    · exact z
  have back : ∀ {t' σ' H'}, J X.mg Sc (shut H1 A) t' σ' H' → J X.mg Sc H0 t' σ' H' := fun {t' σ' H'} j => by
    obtain ⟨A', r', nd', fr', e', _⟩ := j
    exact ⟨A', r', nd', fun a ha => sh0.free (fr' a ha), sh0.trans e', hsc⟩
  have mem : ∀ {t' σ' H' A'}, RepSl X.mg (fun a => Sc a ∨ a ∈ A') H' t' σ' A' → (∀ a ∈ A', shut H1 A a = none) → Same (shut H1 A) H' → ∀ (a : Addr) (o : HO), ¬ (Sc a ∨ a ∈ A) → H1 a = some o → H' a = some o := fun {t' σ' H' A'} r' fr' e' a o n z => e' a o (by
    unfold shut
    rw [if_neg fun h => n (.inr h)]
    exact z)
  refine for_it wk (fun i σ' H' => ∃ t', J X.mg Sc (shut H1 A) t' σ' H' ∧ forIn' gd s1 (ds.drop i) t' = some out) ⟨t, j1, hf⟩ (fun i σ' H' _ ⟨t', ⟨A', r', nd', fr', e', _⟩, _⟩ => ?_) (fun i x σ' H' H3 hi ⟨t', ⟨A', r', nd', fr', e', _⟩, hf'⟩ y => ?_) (fun σ' H' ⟨t', j', hf'⟩ => ?_)
  · exact (hw noS H' (fun _ z => z.elim) (mem r' fr' e') (fun _ z => z.elim)).1
  · have hdi : ds[i]? = some ds[i] := List.getElem?_eq_getElem hi
    have hS2 : ∀ a, (Sc a ∨ a ∈ A') → (Sc a ∨ a ∈ A) ∨ H1 a = none := fun a z => by
      rcases z with z | z
      · exact .inl (.inl z)
      · by_cases ha : a ∈ A
        · exact .inl (.inr ha)
        · have := fr' a z
          unfold shut at this
          rw [if_neg ha] at this
          exact .inr this
    obtain ⟨e3, rx⟩ := (hw (fun a => Sc a ∨ a ∈ A') H' hS2 (mem r' fr' e') (J.in r' e' hsc')).2 i x H3 _ hdi y
    rw [List.drop_eq_getElem_cons hi] at hf'
    obtain ⟨t1, g1, hf'⟩ := bind_some hf'
    obtain ⟨o, b1, hf'⟩ := bind_some hf'
    refine ⟨_, t', A', ds[i], t1, r'.same e3, rx, g1, fun σ2 A2 r2 sub _ => ?_⟩
    refine ⟨Sc, shut H1 A, t1, o, ⟨A2, r2.less fun a z => z.elim .inl fun z => .inr (sub.subset z), nd'.sublist sub, fun a ha => fr' a (sub.subset ha), e'.trans e3, hsc'⟩, b1, ?_⟩
    cases o with
    | nx t2 => exact fun σ3 H3 j3 => ⟨t2, j3, hf'⟩
    | ct t2 => exact fun σ3 H3 j3 => ⟨t2, j3, hf'⟩
    | bk t2 =>
      cases hf'
      exact fun σ3 H3 j3 => q σ3 H3 (back j3)
    | rt o =>
      cases hf'
      exact fun v H3 as e4 ro nd4 fr4 => q v H3 as (sh0.trans e4) ro nd4 fun a ha => sh0.free (fr4 a ha)
  · rw [List.drop_length] at hf'
    cases hf'
    exact q σ' H' (back j')
theorem es_while {ba : BE} {body : List Stmt} (hp : PS X st (tWhile (tTs X.mg ba) (tS X.mg s1))) : ES X st (sWhile ba s1) := by
  refine ps_imp hp fun De σ H ⟨Sc, H0, t, out, j, hf, q⟩ => ?_
  unfold sWhile at hf
  split at hf
  · rename_i hex
    refine ⟨fun n σ' H' => ∃ t', J X.mg Sc H0 t' σ' H' ∧ whileN ba s1 n t' = some out, ⟨hex.choose, t, j, hf⟩, ?_⟩
    rintro n σ' H' ⟨t', j', hw⟩
    cases n with
    | zero => cases hw
    | succ n =>
      obtain ⟨k, h1, hw⟩ := bind_some hw
      refine at_t j' h1 fun H2 e2 j2 => ?_
      cases k with
      | true =>
        rw [if_pos rfl] at hw
        obtain ⟨o, h2, hw⟩ := bind_some hw
        refine ⟨fun σ3 H3 => ∃ t3, J X.mg Sc H0 t3 σ3 H3 ∧ whileN ba s1 n t3 = some out, fun σ3 H3 z => ⟨n, Nat.lt_succ_self n, z⟩, ⟨Sc, H0, t', o, j2, h2, ?_⟩⟩
        cases o with
        | nx t2 => exact fun σ3 H3 j3 => ⟨t2, j3, hw⟩
        | ct t2 => exact fun σ3 H3 j3 => ⟨t2, j3, hw⟩
        | bk t2 => cases hw; exact q
        | rt o => cases hw; exact q
      | false =>
        rw [if_neg (by decide)] at hw
        cases hw
        exact q σ' H2 j2
  · cases hf
end
end Den

/-! Den7: what is owned is changed. -/
namespace Den
open PySem L2
section
variable {mg : Str → Option Value} {S S' Sc : Addr → Prop} {H H' H0 : Hp}
theorem RepOs.focus : ∀ {os : List O} {vs : List V} {as : List Addr} {m : Nat} {o : O}, RepOs mg S H os vs as → os[m]? = some o → ∃ v A1 bs A2, vs[m]? = some v ∧ as = A1 ++ bs ++ A2 ∧ RepO mg S H o v bs ∧
    ∀ (H' : Hp) (o' : O) (bs' : List Addr), (∀ a u, ¬ S a → H a = some u → H' a = some u) → (∀ a ∈ A1 ++ A2, ∀ u, H a = some u → H' a = some u) → RepO mg S H' o' v bs' → RepOs mg S H' (os.set m o') vs (A1 ++ bs' ++ A2)
  | [], vs, as, m, o, h, e => by simp at e
  | x :: xs, vs, as, 0, o, h, e => by
    obtain ⟨v, r, bs, cs, h1, h2, h3, h4⟩ := h
    have ex : x = o := by simpa using e
    subst ex h1 h2
    refine ⟨v, [], bs, cs, rfl, rfl, h3, fun H' o' bs' k1 k2 ro => ⟨v, r, bs', cs, rfl, rfl, ro, h4.keep (fun _ z => z) k1 fun a ha u hu => k2 a ha u hu⟩⟩
  | x :: xs, vs, as, m + 1, o, h, e => by
    obtain ⟨v, r, bs, cs, h1, h2, h3, h4⟩ := h
    subst h1 h2
    obtain ⟨w, A1, ds, A2, q1, q2, q3, q4⟩ := RepOs.focus (m := m) (o := o) h4 (by simpa using e)
    subst q2
    refine ⟨w, bs ++ A1, ds, A2, by simpa using q1, by simp [List.append_assoc], q3, fun H' o' bs' k1 k2 ro => ?_⟩
    refine ⟨v, r, bs, A1 ++ bs' ++ A2, rfl, by simp [List.append_assoc], h3.keep (fun _ z => z) k1 fun a ha u hu => k2 a (by rw [List.append_assoc]; exact List.mem_append_left _ ha) u hu, ?_⟩
    exact q4 H' o' bs' k1 (fun a ha => k2 a (by rw [List.append_assoc]; exact List.mem_append_right _ ha)) ro
/-- from v along p one comes to w -/
def Leads (mg : Str → Option Value) (H : Hp) : V → List Stp → V → Prop
  | v, [], w => w = v
  | v, .ix j :: p, w => ∃ a vs u, v = .ref a ∧ (H a = some (.lst vs) ∨ H a = some (.tup vs)) ∧ atI vs j = some u ∧ Leads mg H u p w
  | v, .fl f cs :: p, w => ∃ a c C dx fs u, v = .ref a ∧ cs.contains c = true ∧ mg c = some (.ref C) ∧ H a = some (.ins C dx fs) ∧ fs.lookup f = some u ∧ Leads mg H u p w
theorem zip_lookup {α : Type} {f : Str} : ∀ {ns : List Str} {vs : List α} {m : Nat} {v : α}, ns.findIdx? (· == f) = some m → vs[m]? = some v → (ns.zip vs).lookup f = some v
  | [], vs, m, v, h, e => by simp at h
  | n :: ns, [], m, v, h, e => by simp at e
  | n :: ns, x :: vs, m, v, h, e => by
    rw [List.findIdx?_cons] at h
    rw [List.zip_cons_cons, List.lookup_cons]
    by_cases hn : (n == f) = true
    · rw [if_pos hn] at h
      cases h
      have : f = n := (beq_iff_eq.mp hn).symm
      subst this
      simp at e
      subst e
      simp
    · rw [if_neg hn] at h
      obtain ⟨m', h1, rfl⟩ := map_some h
      have : (f == n) = false := by
        apply beq_eq_false_iff_ne.mpr
        intro z
        exact hn (by rw [z]; simp)
      rw [this]
      exact zip_lookup h1 (by simpa using e)
/-- the node at the path's end, and all of it when that node is changed -/
theorem RepO.mod {g : Nk → List O → Option (Nk × List O)} : ∀ {p : List Stp} {x x' : O} {v : V} {bs : List Addr}, modAt g p x = some x' → RepO mg S H x v bs → bs.Nodup → (∀ b ∈ bs, S b) →
    ∃ a k os vs cs k' os', a ∈ bs ∧ Leads mg H v p (.ref a) ∧ k.At mg H a vs ∧ RepOs mg S H os vs cs ∧ a ∉ cs ∧ g k os = some (k', os') ∧
      ∀ (u : HO) (vs' : List V) (cs' : List Addr), k'.At mg (upd H a u) a vs' → RepOs mg S (upd H a u) os' vs' cs' → cs'.Sublist cs → ∃ bs', RepO mg S (upd H a u) x' v bs' ∧ bs'.Sublist bs
  | [], .nd k os, x', v, bs, hm, r, nd, hb => by
    obtain ⟨a, vs, cs, rfl, rfl, hk, ro⟩ := r
    obtain ⟨⟨k', os'⟩, h1, rfl⟩ := map_some hm
    have n := List.nodup_cons.mp nd
    exact ⟨a, k, os, vs, cs, k', os', List.mem_cons_self, rfl, hk, ro, n.1, h1, fun u vs' cs' hk' ro' sub => ⟨a :: cs', ⟨a, vs', cs', rfl, rfl, hk', ro'⟩, sub.cons_cons a⟩⟩
  | [], .val d, x', v, bs, hm, r, nd, hb => by cases hm
  | s :: p, x, x', v, bs, hm, r, nd, hb => by
    obtain ⟨⟨m, o⟩, h1, hm⟩ := bind_some hm
    obtain ⟨o', h2, rfl⟩ := map_some hm
    -- the step
    have key : ∃ k os a vs cs, x = .nd k os ∧ v = .ref a ∧ bs = a :: cs ∧ k.At mg H a vs ∧ RepOs mg S H os vs cs ∧ os[m]? = some o ∧ ∀ w z, vs[m]? = some w → Leads mg H w p z → Leads mg H v (s :: p) z := by
      cases s with
      | ix j =>
        unfold stepAt at h1
        simp only at h1
        split at h1
        · rename_i os _
          obtain ⟨a, vs, cs, rfl, rfl, hk, ro⟩ := r
          obtain ⟨m', h3, h4⟩ := bind_some h1
          obtain ⟨o2, h5, h6⟩ := map_some h4
          cases h6
          refine ⟨.lst, os, a, vs, cs, rfl, rfl, rfl, hk, ro, h5, fun w z hw hl => ⟨a, vs, w, rfl, .inl hk, ?_, hl⟩⟩
          unfold atI
          rw [ro.length, h3]
          exact hw
        · rename_i os _
          obtain ⟨a, vs, cs, rfl, rfl, hk, ro⟩ := r
          obtain ⟨m', h3, h4⟩ := bind_some h1
          obtain ⟨o2, h5, h6⟩ := map_some h4
          cases h6
          refine ⟨.tup, os, a, vs, cs, rfl, rfl, rfl, hk, ro, h5, fun w z hw hl => ⟨a, vs, w, rfl, .inr hk, ?_, hl⟩⟩
          unfold atI
          rw [ro.length, h3]
          exact hw
        · cases h1
      | fl f fcs =>
        unfold stepAt at h1
        simp only at h1
        split at h1
        · rename_i c ns os _
          obtain ⟨a, vs, cs, rfl, rfl, hk, ro⟩ := r
          by_cases hl : fcs.contains c = true ∧ ns.length = os.length
          · rw [if_pos hl] at h1
            obtain ⟨m', h3, h4⟩ := bind_some h1
            obtain ⟨o2, h5, h6⟩ := map_some h4
            cases h6
            have hk' := hk
            obtain ⟨l1, C, dx, hc, hh⟩ := hk'
            refine ⟨.ins c ns, os, a, vs, cs, rfl, rfl, rfl, hk, ro, h5, fun w z hw hl2 => ⟨a, c, C, dx, _, w, rfl, hl.1, hc, hh, zip_lookup h3 hw, hl2⟩⟩
          · rw [if_neg hl] at h1
            cases h1
        · cases h1
    obtain ⟨k, os, a, vs, cs, rfl, rfl, rfl, hk, ro, hom, lead⟩ := key
    obtain ⟨w, A1, ds, A2, q1, q2, q3, q4⟩ := ro.focus hom
    subst q2
    have n := List.nodup_cons.mp nd
    have n2 := List.nodup_append.mp n.2
    have n1 := List.nodup_append.mp n2.1
    have dsub : ∀ b ∈ ds, b ∈ A1 ++ ds ++ A2 := fun b hb => List.mem_append_left _ (List.mem_append_right _ hb)
    obtain ⟨b, k2, os2, vs2, cs2, k3, os3, z1, z2, z3, z4, z5, z6, z7⟩ := RepO.mod h2 q3 n1.2.1 fun b h => hb b (List.mem_cons_of_mem _ (dsub b h))
    refine ⟨b, k2, os2, vs2, cs2, k3, os3, List.mem_cons_of_mem _ (dsub b z1), lead w _ q1 z2, z3, z4, z5, z6, fun u vs' cs' hk' ro' sub => ?_⟩
    obtain ⟨bs', y1, y2⟩ := z7 u vs' cs' hk' ro' sub
    have bS : S b := hb b (List.mem_cons_of_mem _ (dsub b z1))
    have ab : a ≠ b := fun e => n.1 (by rw [e]; exact dsub b z1)
    have up : ∀ c o, c ≠ b → H c = some o → upd H b u c = some o := fun c o hc h => by rw [upd_ne hc]; exact h
    refine ⟨a :: (A1 ++ bs' ++ A2), ⟨a, vs, _, rfl, rfl, hk.keep fun o h => up a o ab h, q4 _ _ _ (fun c o nc h => up c o (fun e => nc (by rw [e]; exact bS)) h) (fun c hc o h => up c o (fun e => ?_) h) y1⟩, ?_⟩
    · subst e
      rcases List.mem_append.mp hc with hc | hc
      · exact n1.2.2 c hc c z1 rfl
      · exact n2.2.2 c (List.mem_append_right _ z1) c hc rfl
    · exact List.Sublist.cons_cons a (List.Sublist.append (List.Sublist.append (List.Sublist.refl _) y2) (List.Sublist.refl _))
/-- the same within a body's state -/
theorem J.mod {t : Tau} {σ : St} {i : Nat} {x x' : O} {p : List Stp} {g : Nk → List O → Option (Nk × List O)} {A : List Addr} (r : RepSl mg (fun a => Sc a ∨ a ∈ A) H t σ A) (nd : A.Nodup) (fr : ∀ a ∈ A, H0 a = none) (e0 : Same H0 H) (hs : ∀ a, Sc a → H0 a ≠ none)
    (hi : t[i]? = some (some x)) (hm : modAt g p x = some x') : ∃ v a k os vs cs k' os', σ[i]? = some (some v) ∧ Leads mg H v p (.ref a) ∧ a ∈ A ∧ k.At mg H a vs ∧ RepOs mg (fun a => Sc a ∨ a ∈ A) H os vs cs ∧ a ∉ cs ∧ g k os = some (k', os') ∧
      ∀ (u : HO) (vs' : List V) (cs' : List Addr), k'.At mg (upd H a u) a vs' → RepOs mg (fun a => Sc a ∨ a ∈ A) (upd H a u) os' vs' cs' → cs'.Sublist cs → J mg Sc H0 (t.set i (some x')) σ (upd H a u) := by
  obtain ⟨sv, A1, bs, A2, q1, q2, ⟨v, rfl, ro⟩, q4⟩ := r.focus hi
  subst q2
  have n2 := List.nodup_append.mp nd
  have n1 := List.nodup_append.mp n2.1
  have bsub : ∀ b ∈ bs, b ∈ A1 ++ bs ++ A2 := fun b hb => List.mem_append_left _ (List.mem_append_right _ hb)
  obtain ⟨a, k, os, vs, cs, k', os', z1, z2, z3, z4, z5, z6, z7⟩ := RepO.mod hm ro n1.2.1 fun b h => .inr (bsub b h)
  refine ⟨v, a, k, os, vs, cs, k', os', q1, z2, bsub a z1, z3, z4, z5, z6, fun u vs' cs' hk' ro' sub => ?_⟩
  obtain ⟨bs', y1, y2⟩ := z7 u vs' cs' hk' ro' sub
  have up : ∀ c o, c ≠ a → H c = some o → upd H a u c = some o := fun c o hc h => by rw [upd_ne hc]; exact h
  have l : ∀ c, (Sc c ∨ c ∈ A1 ++ bs' ++ A2) → Sc c ∨ c ∈ A1 ++ bs ++ A2 := fun c z => z.elim .inl fun z => .inr (by
    rcases List.mem_append.mp z with z | z
    · rcases List.mem_append.mp z with z | z
      · exact List.mem_append_left _ (List.mem_append_left _ z)
      · exact bsub c (y2.subset z)
    · exact List.mem_append_right _ z)
  have q5 := q4 (fun c => Sc c ∨ c ∈ A1 ++ bs' ++ A2) (upd H a u) (some x') (some v) bs' (fun c o nc h => ⟨fun z => nc (l c z), up c o (fun e => nc (.inr (by rw [e]; exact bsub a z1))) h⟩) (fun c hc o h => up c o (fun e => by
    subst e
    rcases List.mem_append.mp hc with hc | hc
    · exact n1.2.2 c hc c z1 rfl
    · exact n2.2.2 c (List.mem_append_right _ z1) c hc rfl) h) ⟨v, rfl, y1.less l⟩
  have eσ : σ.set i (some v) = σ := by
    obtain ⟨h1, h2⟩ := List.getElem?_eq_some_iff.mp q1
    rw [← h2]
    exact List.set_getElem_self h1
  rw [eσ] at q5
  refine ⟨A1 ++ bs' ++ A2, q5, ?_, fun c hc => ?_, fun b o h => up b o (fun e => ?_) (e0 b o h), hs⟩
  · exact nd.sublist (List.Sublist.append (List.Sublist.append (List.Sublist.refl _) y2) (List.Sublist.refl _))
  · rcases l c (.inr hc) with z | z
    · rcases List.mem_append.mp hc with hc | hc
      · rcases List.mem_append.mp hc with hc | hc
        · exact fr c (List.mem_append_left _ (List.mem_append_left _ hc))
        · exact fr c (bsub c (y2.subset hc))
      · exact fr c (List.mem_append_right _ hc)
    · exact fr c z
  · rw [e, fr a (bsub a z1)] at h
    cases h
theorem RepOs.app : ∀ {os ps : List O} {vs us : List V} {as bs : List Addr}, RepOs mg S H os vs as → RepOs mg S H ps us bs → RepOs mg S H (os ++ ps) (vs ++ us) (as ++ bs)
  | [], ps, vs, us, as, bs, h, k => by
    obtain ⟨rfl, rfl⟩ := h
    exact k
  | x :: xs, ps, vs, us, as, bs, h, k => by
    obtain ⟨v, r, cs, ds, rfl, rfl, h3, h4⟩ := h
    exact ⟨v, r ++ us, cs, ds ++ bs, rfl, by simp [List.append_assoc], h3, RepOs.app h4 k⟩
theorem RepOs.setV {d : D} {y : V} (rd : Rep mg S H d y) : ∀ {os : List O} {vs : List V} {as : List Addr} (m : Nat), RepOs mg S H os vs as → ∃ bs, RepOs mg S H (os.set m (.val d)) (vs.set m y) bs ∧ bs.Sublist as
  | [], vs, as, m, h => ⟨as, by obtain ⟨rfl, rfl⟩ := h; exact ⟨rfl, rfl⟩, List.Sublist.refl _⟩
  | x :: xs, vs, as, 0, h => by
    obtain ⟨v, r, cs, ds, rfl, rfl, h3, h4⟩ := h
    exact ⟨ds, ⟨y, r, [], ds, rfl, rfl, ⟨rfl, rd⟩, h4⟩, List.sublist_append_right _ _⟩
  | x :: xs, vs, as, m + 1, h => by
    obtain ⟨v, r, cs, ds, rfl, rfl, h3, h4⟩ := h
    obtain ⟨bs, q1, q2⟩ := RepOs.setV rd m h4
    exact ⟨cs ++ bs, ⟨v, _, cs, bs, rfl, rfl, h3, q1⟩, List.Sublist.append_left q2 _⟩
/-- a changed place touches nothing that keeps off it -/
theorem Rep.upd {d : D} {y : V} {a : Addr} {u : HO} (h : Rep mg S H d y) (ha : S a) : Rep mg S (L2.upd H a u) d y := h.keep (fun _ z => z) fun c o nc q => by
  rw [upd_ne fun e => nc (by rw [e]; exact ha)]
  exact q
theorem Reps.upd {d : List D} {y : List V} {a : Addr} {u : HO} (h : Reps mg S H d y) (ha : S a) : Reps mg S (L2.upd H a u) d y := h.keep (fun _ z => z) fun c o nc q => by
  rw [upd_ne fun e => nc (by rw [e]; exact ha)]
  exact q
theorem RepOs.upd {d : List O} {y : List V} {as : List Addr} {a : Addr} {u : HO} (h : RepOs mg S H d y as) (ha : S a) (hn : a ∉ as) : RepOs mg S (L2.upd H a u) d y as := h.keep (fun _ z => z) (fun c o nc q => by
  rw [upd_ne fun e => nc (by rw [e]; exact ha)]
  exact q) fun c hc o q => by
  rw [upd_ne fun e => hn (by rw [← e]; exact hc)]
  exact q
end
section
variable {X : Cx} {e a b c : Expr} {f fa fb fc : VE} {pos : Pos} {st : Stmt}
/-- an expression that goes from slot i along p -/
def tPath (mg : Str → Option Value) (i : Nat) (p : List Stp) : TE := fun σ H Q => ∃ v w, σ[i]? = some (some v) ∧ Leads mg H v p w ∧ Q w H
theorem pp_var {i : Nat} (h : PE X e (tVar i)) : PE X e (tPath X.mg i []) := pe_imp h fun σ H Q ⟨v, w, h1, h2, q⟩ => by
  have h2 : w = v := h2
  subst h2
  exact ⟨w, h1, q⟩
theorem leads_snoc {mg : Str → Option Value} {H : Hp} {s : Stp} : ∀ {p : List Stp} {v w : V}, Leads mg H v (p ++ [s]) w → ∃ u, Leads mg H v p u ∧ Leads mg H u [s] w
  | [], v, w, h => ⟨v, rfl, h⟩
  | .ix k :: p, v, w, h => by
    obtain ⟨a, vs, u, h1, h2, h3, h4⟩ := h
    obtain ⟨u', q1, q2⟩ := leads_snoc h4
    exact ⟨u', ⟨a, vs, u, h1, h2, h3, q1⟩, q2⟩
  | .fl f cs :: p, v, w, h => by
    obtain ⟨a, c, C, dx, fs, u, h1, h2, h3, h4, h5, h6⟩ := h
    obtain ⟨u', q1, q2⟩ := leads_snoc h6
    exact ⟨u', ⟨a, c, C, dx, fs, u, h1, h2, h3, h4, h5, q1⟩, q2⟩
theorem pp_fl {i : Nat} {p : List Stp} {f : Str} {cs : List Str} (hcl : ∀ c, cs.contains c = true → ∀ Ca, X.mg c = some (.ref Ca) → Cls X.K Ca ∧ NoAttr X.K Ca f) (ha : PE X a (tPath X.mg i p)) (hb : attributeBase a f X.env (eval a X.env) = eval a X.env) : PE X (.Attribute a f pos) (tPath X.mg i (p ++ [.fl f cs])) := by
  refine pe_imp (pe_fld ha hb) fun σ H Q ⟨v, w, h1, h2, q⟩ => ?_
  obtain ⟨u, q1, a, c, C, dx, fs, w', rfl, h3, h4, h5, h6, h7⟩ := leads_snoc h2
  have h7 : w = w' := h7
  subst h7
  exact ⟨v, .ref a, h1, q1, a, C, dx, fs, w, rfl, h5, (hcl c h3 C h4).1, (hcl c h3 C h4).2, h6, q⟩
theorem pp_ix {i : Nat} {p : List Stp} {j : Int} (ha : PE X a (tPath X.mg i p)) (hb : PE X b (tC (.int j))) (hs : PlainIx b) : PE X (.Subscript a b pos) (tPath X.mg i (p ++ [.ix j])) := by
  refine pe_imp (pe_ix (ix_list.or ix_tup) ha hb hs) fun σ H Q ⟨v, w, h1, h2, q⟩ => ?_
  obtain ⟨u, q1, l, vs, w', rfl, q3, q4, q5⟩ := leads_snoc h2
  have q5 : w = w' := q5
  subst q5
  refine ⟨v, .ref l, h1, q1, ?_⟩
  rcases q3 with q3 | q3
  · exact .inl ⟨l, vs, j, w, rfl, rfl, SqL.of q3, q4, q⟩
  · exact .inr ⟨l, vs, j, w, rfl, rfl, SqT.of q3, q4, q⟩
theorem sMod_some {i : Nat} {p : List Stp} {g : Nk → List O → Option (Nk × List O)} {t : Tau} {out : Out} (h : sMod i p g t = some out) : ∃ x x', t[i]? = some (some x) ∧ modAt g p x = some x' ∧ out = .nx (t.set i (some x')) := by
  obtain ⟨x, h1, h⟩ := bind_some h
  obtain ⟨x', h2, h⟩ := map_some h
  exact ⟨x, x', bVar_some h1, h2, h.symm⟩
/-- owned things stand while more is made -/
theorem modAt_same {mg : Str → Option Value} {S : Addr → Prop} {H H' : Hp} {t : Tau} {σ : St} {A : List Addr} (r : RepSl mg S H t σ A) (e : Same H H') : RepSl mg S H' t σ A := r.same e
theorem Leads.same {mg : Str → Option Value} {H H' : Hp} (e : Same H H') : ∀ {p : List Stp} {v w : V}, Leads mg H v p w → Leads mg H' v p w
  | [], v, w, h => h
  | .ix k :: p, v, w, h => by
    obtain ⟨a, vs, u, h1, h2, h3, h4⟩ := h
    exact ⟨a, vs, u, h1, h2.elim (fun z => .inl (e _ _ z)) fun z => .inr (e _ _ z), h3, Leads.same e h4⟩
  | .fl f cs :: p, v, w, h => by
    obtain ⟨a, c, C, dx, fs, u, h1, h2, h3, h4, h5, h6⟩ := h
    exact ⟨a, c, C, dx, fs, u, h1, h2, h3, e _ _ h4, h5, Leads.same e h6⟩
theorem Leads.one {mg : Str → Option Value} {H : Hp} : ∀ {p : List Stp} {v w z : V}, Leads mg H v p w → Leads mg H v p z → w = z
  | [], v, w, z, h, k => (show w = v from h).trans (show z = v from k).symm
  | .ix j :: p, v, w, z, h, k => by
    obtain ⟨a, vs, u, h1, h2, h3, h4⟩ := h
    obtain ⟨b, us, y, k1, k2, k3, k4⟩ := k
    subst h1
    cases k1
    have e : vs = us := by
      rcases h2 with h2 | h2 <;> rcases k2 with k2 | k2 <;> (rw [h2] at k2; cases k2; try rfl)
    subst e
    rw [h3] at k3
    cases k3
    exact Leads.one h4 k4
  | .fl f cs :: p, v, w, z, h, k => by
    obtain ⟨a, c, C, dx, fs, u, h1, h2, h3, h4, h5, h6⟩ := h
    obtain ⟨b, c', C', dx', gs, y, k1, k2, k3, k4, k5, k6⟩ := k
    subst h1
    cases k1
    rw [h4] at k4
    cases k4
    rw [h5] at k5
    cases k5
    exact Leads.one h6 k6
/-- the place of a change, ahead of and behind an expression -/
theorem mod_two {mg : Str → Option Value} {Sc : Addr → Prop} {H H' H0 : Hp} {t : Tau} {σ : St} {i : Nat} {x x' : O} {p : List Stp} {g : Nk → List O → Option (Nk × List O)} {A : List Addr} {v : V} {a : Addr} (r : RepSl mg (fun a => Sc a ∨ a ∈ A) H t σ A) (nd : A.Nodup) (fr : ∀ a ∈ A, H0 a = none) (e0 : Same H0 H) (hs : ∀ a, Sc a → H0 a ≠ none)
    (hi : t[i]? = some (some x)) (hm : modAt g p x = some x') (hv : σ[i]? = some (some v)) (hl : Leads mg H v p (.ref a)) (e : Same H H') :
    ∃ k os vs cs k' os', a ∈ A ∧ k.At mg H' a vs ∧ RepOs mg (fun a => Sc a ∨ a ∈ A) H' os vs cs ∧ a ∉ cs ∧ g k os = some (k', os') ∧
      ∀ (u : HO) (vs' : List V) (cs' : List Addr), k'.At mg (upd H' a u) a vs' → RepOs mg (fun a => Sc a ∨ a ∈ A) (upd H' a u) os' vs' cs' → cs'.Sublist cs → J mg Sc H0 (t.set i (some x')) σ (upd H' a u) := by
  obtain ⟨v2, a2, k2, os2, vs2, cs2, k3, os3, y1, y2, y3, y4, y5, y6, y7, y8⟩ := J.mod (r.same e) nd fr (e0.trans e) hs hi hm
  have ev : v2 = v := by rw [hv] at y1; exact (Option.some.inj (Option.some.inj y1)).symm
  subst ev
  cases Leads.one y2 (hl.same e)
  exact ⟨k2, os2, vs2, cs2, k3, os3, y3, y4, y5, y6, y7, y8⟩
/-- x.append(e) -/
theorem app_go {i : Nat} {p : List Stp} {De : Ends} {σ : St} {H : Hp} (h : tS X.mg (sApp i p f) De σ H) : tDrop (tBM X.K "list" rAppend (tPath X.mg i p) (tCons (tV X.mg f) tNil)) De σ H := by
  obtain ⟨Sc, H0, t, out, j, hf, q⟩ := h
  obtain ⟨o, h1, hf⟩ := bind_some hf
  obtain ⟨x, x', h2, h3, rfl⟩ := sMod_some hf
  obtain ⟨A, r, nd, fr, e0, hs⟩ := j
  obtain ⟨v, a, k, os, vs, cs, k', os', z1, z2, z3, z4, z5, z6, z7, _⟩ := J.mod r nd fr e0 hs h2 h3
  unfold mApp at z7
  split at z7
  · refine ⟨v, .ref a, z1, z2, .inl ⟨rfl, vs, SqL.of z4⟩, ?_⟩
    refine ⟨_, t, A, o, r, J.in r e0 hs, h1, fun y H' as e ro nda fra => ?_⟩
    obtain ⟨k2, os2, vs2, cs2, k3, os3, y3, y4, y5, y6, y7, y8⟩ := mod_two r nd fr e0 hs h2 h3 z1 z2 e
    unfold mApp at y7
    split at y7
    · obtain ⟨hz, y7⟩ := ite_some y7
      cases y7
      have rd : Rep X.mg (fun a => Sc a ∨ a ∈ A) H' o.toD y := ro.toD (fun a z => .inl z) fun a ha z => J.in r e0 hs a z (fra a ha)
      refine ⟨a, vs2, y, rfl, rfl, y4, by rw [y5.length]; exact big_line' hz, q _ _ (y8 _ (vs2 ++ [y]) (cs2 ++ []) upd_same ?_ (by rw [List.append_nil]; exact List.Sublist.refl _))⟩
      exact (y5.upd (.inr y3) y6).app ⟨y, [], [], [], rfl, rfl, ⟨rfl, rd.upd (.inr y3)⟩, rfl, rfl⟩
    · cases y7
  · cases z7
theorem es_app {i : Nat} {p : List Stp} (h : PS X st (tDrop (tBM X.K "list" rAppend (tPath X.mg i p) (tCons (tV X.mg f) tNil)))) : ES X st (sApp i p f) := ps_imp h fun De σ H q => app_go q
theorem ps_or {st : Stmt} {t t' : TS} (h : PS X st t) (h' : PS X st t') : PS X st (fun D σ H => t D σ H ∨ t' D σ H) := ⟨fun pins s σ H D I q => q.elim (h.run pins s σ H D I) (h'.run pins s σ H D I)⟩
/-- x[j] = e -/
theorem es_put {i : Nat} {p : List Stp} {fj : VE} (h : PS X st (tAsg (tV X.mg f) (gSub (tPath X.mg i p) (tBr X.mg fj) rSetL))) (h' : PS X st (tAsg (tV X.mg f) (gSub (tPath X.mg i p) (tBr X.mg fj) rSetD))) : ES X st (sPut i p fj f) := ps_imp (ps_or h h') fun De σ H ⟨Sc, H0, t, out, j, hf, q⟩ => by
  obtain ⟨o, h1, hf⟩ := bind_some hf
  obtain ⟨m, h2, hf⟩ := bind_some hf
  obtain ⟨x, x', h4, h5, rfl⟩ := sMod_some hf
  obtain ⟨A, r, nd, fr, e0, hs⟩ := j
  obtain ⟨v0, a0, k0, os0, vs0, cs0, k0', os0', w1, w2, w3, w4, w5, w6, w7, _⟩ := J.mod r nd fr e0 hs h4 h5
  have kd : k0 = .lst ∨ (∃ kvs, k0 = .dk kvs) ∨ ∃ kvs, k0 = .dt kvs := by
    unfold mPut at w7
    split at w7
    · exact .inl rfl
    · exact .inr (.inl ⟨_, rfl⟩)
    · exact .inr (.inr ⟨_, rfl⟩)
    · cases w7
  -- what is common to all kinds
  have go : ∀ (rs : V → V → V → Hp → (Hp → Prop) → Prop), (∀ (y w : V) (H1 H2 : Hp) (k2 : Nk) (os2 : List O) (vs2 : List V) (cs2 : List Addr) (k3 : Nk) (os3 : List O), k2.At X.mg H2 a0 vs2 → (∀ (kk : Nk) us, kk.At X.mg H a0 us → kk.At X.mg H2 a0 us) → a0 ∈ A → a0 ∉ cs2 → RepOs X.mg (fun a => Sc a ∨ a ∈ A) H2 os2 vs2 cs2 → mPut m o.toD k2 os2 = some (k3, os3) →
      Rep X.mg (fun a => Sc a ∨ a ∈ A) H2 o.toD y → (∃ bs, RepO X.mg (fun a => Sc a ∨ a ∈ A) H2 m w bs) →
      (∀ (u : HO) (vs' : List V) (cs' : List Addr), k3.At X.mg (upd H2 a0 u) a0 vs' → RepOs X.mg (fun a => Sc a ∨ a ∈ A) (upd H2 a0 u) os3 vs' cs' → cs'.Sublist cs2 → De.nx σ (upd H2 a0 u)) → rs (.ref a0) w y H2 (fun H' => De.nx σ H')) →
      tAsg (tV X.mg f) (gSub (tPath X.mg i p) (tBr X.mg fj) rs) De σ H := by
    intro rs hrs
    refine ⟨_, t, A, o, r, J.in r e0 hs, h1, fun y H1 as e1 ro nda fra => ?_⟩
    have rd : Rep X.mg (fun a => Sc a ∨ a ∈ A) H1 o.toD y := ro.toD (fun a z => .inl z) fun a ha z => J.in r e0 hs a z (fra a ha)
    refine ⟨v0, .ref a0, w1, w2.same e1, ?_⟩
    refine ⟨_, t, A, m, r.same e1, J.in (r.same e1) (e0.trans e1) hs, h2, fun w H2 bs e2 rw2 => ?_⟩
    obtain ⟨k2, os2, vs2, cs2, k3, os3, y3, y4, y5, y6, y7, y8⟩ := mod_two (r.same e1) nd fr (e0.trans e1) hs h4 h5 w1 (w2.same e1) e2
    exact hrs y w H1 H2 k2 os2 vs2 cs2 k3 os3 y4 (fun kk us hk => hk.keep fun o z => e2 _ _ (e1 _ _ z)) y3 y6 y5 y7 (rd.same e2) ⟨bs, rw2⟩ fun u vs' cs' z1 z2 z3 => q _ _ (y8 u vs' cs' z1 z2 z3)
  rcases kd with rfl | ⟨kvs, rfl⟩ | ⟨kvs, rfl⟩
  · refine .inl (go _ fun y w H1 H2 k2 os2 vs2 cs2 k3 os3 y4 ky y3 y6 y5 y7 rd ⟨bs, rw2⟩ fin => ?_)
    have w4' : H2 a0 = some (.lst vs0) := ky .lst vs0 w4
    unfold mPut at y7
    split at y7
    · obtain ⟨n, h3, y7⟩ := bind_some y7
      obtain ⟨m', hx, y7⟩ := map_some y7
      cases y7
      obtain ⟨bs', q1, q2⟩ := (y5.upd (u := .lst (vs2.set m' y)) (.inr y3) y6).setV (rd.upd (.inr y3)) m'
      exact ⟨a0, vs2, n, m', rfl, rw2.int h3, y4, by rw [y5.length]; exact hx, fin _ (vs2.set m' y) bs' upd_same q1 q2⟩
    · have z : _ = _ := y4.2
      rw [w4'] at z
      cases z
    · have z : _ = _ := y4.2
      rw [w4'] at z
      cases z
    · cases y7
  · refine .inr (go _ fun y w H1 H2 k2 os2 vs2 cs2 k3 os3 y4 ky y3 y6 y5 y7 rd ⟨bs, rw2⟩ fin => ?_)
    have w4' : H2 a0 = some (.dK kvs) := (ky (.dk kvs) vs0 w4).2
    unfold mPut at y7
    split at y7
    · have z : H2 a0 = some (.lst vs2) := y4
      rw [w4'] at z
      cases z
    · rename_i kvs2 _
      obtain ⟨kv, g1, y7⟩ := bind_some y7
      obtain ⟨ky2, g2, y7⟩ := bind_some y7
      obtain ⟨vv, g3, y7⟩ := bind_some y7
      obtain ⟨hz, y7⟩ := ite_some y7
      cases y7
      have ew : w = kV ky2 := (rw2.v g1).trans (Reps.keys.vkey_eq g2)
      have ey : y = vv := by
        generalize o.toD = dd at rd g3
        match dd, rd, g3 with
        | .at u, rd, g3 => cases g3; exact rd
      subst ew ey
      obtain ⟨rfl, y4⟩ := y4
      refine ⟨a0, _, rfl, DPut.k y4 (big_line' hz), fin _ [] cs2 ⟨rfl, upd_same⟩ ?_ (List.Sublist.refl _)⟩
      exact y5.upd (.inr y3) y6
    · have z := y4.2
      rw [w4'] at z
      cases z
    · cases y7
  · refine .inr (go _ fun y w H1 H2 k2 os2 vs2 cs2 k3 os3 y4 ky y3 y6 y5 y7 rd ⟨bs, rw2⟩ fin => ?_)
    have w4' : H2 a0 = some (.dT kvs) := (ky (.dt kvs) vs0 w4).2
    unfold mPut at y7
    split at y7
    · have z : H2 a0 = some (.lst vs2) := y4
      rw [w4'] at z
      cases z
    · have z := y4.2
      rw [w4'] at z
      cases z
    · rename_i kvs2 _
      have rw2 := rw2.any
      split at y7
      · rename_i ds hd
        rw [hd] at rw2
        obtain ⟨b, us, rfl, _, hb, rs⟩ := rw2
        obtain ⟨ky2, g2, y7⟩ := bind_some y7
        obtain ⟨vv, g3, y7⟩ := bind_some y7
        obtain ⟨hz, y7⟩ := ite_some y7
        cases y7
        have ey : y = vv := by
          generalize o.toD = dd at rd g3
          match dd, rd, g3 with
          | .at u, rd, g3 => cases g3; exact rd
        subst ey
        have hb : H2 b = some (.tup us) := hb
        rw [rs.keys g2] at hb
        obtain ⟨rfl, y4⟩ := y4
        refine ⟨a0, _, rfl, DPut.t y4 hb (big_line' hz), fin _ [] cs2 ⟨rfl, upd_same⟩ ?_ (List.Sublist.refl _)⟩
        exact y5.upd (.inr y3) y6
      · cases y7
    · cases y7
/-- x.reverse() -/
theorem es_rev {i : Nat} {p : List Stp} (h : PS X st (tDrop (tBM0 X.K "list" rReverse (tPath X.mg i p)))) : ES X st (sRev i p) := ps_imp h fun De σ H ⟨Sc, H0, t, out, j, hf, q⟩ => by
  obtain ⟨x, x', h2, h3, rfl⟩ := sMod_some hf
  obtain ⟨A, r, nd, fr, e0, hs⟩ := j
  obtain ⟨v, a, k, os, vs, cs, k', os', z1, z2, z3, z4, z5, z6, z7, z8⟩ := J.mod r nd fr e0 hs h2 h3
  unfold mRev at z7
  split at z7
  · obtain ⟨ds, hd, z7⟩ := map_some z7
    cases z7
    obtain ⟨rfl, rp⟩ := RepOs.ofVals hd z5
    refine ⟨v, .ref a, z1, z2, .inl ⟨rfl, vs, SqL.of z4⟩, a, vs, rfl, rfl, z4, q _ _ (z8 _ vs.reverse [] upd_same ?_ (List.Sublist.refl _))⟩
    exact z5.upd (.inr z3) z6 |>.ofVals hd |>.2.reverse.vals
  · cases z7
/-- x.clear() -/
theorem es_clr {i : Nat} {p : List Stp} (h : PS X st (tDrop (tBM0 X.K "list" rClear (tPath X.mg i p)))) : ES X st (sClr i p) := ps_imp h fun De σ H ⟨Sc, H0, t, out, j, hf, q⟩ => by
  obtain ⟨x, x', h2, h3, rfl⟩ := sMod_some hf
  obtain ⟨A, r, nd, fr, e0, hs⟩ := j
  obtain ⟨v, a, k, os, vs, cs, k', os', z1, z2, z3, z4, z5, z6, z7, z8⟩ := J.mod r nd fr e0 hs h2 h3
  unfold mClr at z7
  split at z7
  · cases z7
    exact ⟨v, .ref a, z1, z2, .inl ⟨rfl, vs, SqL.of z4⟩, a, vs, rfl, rfl, z4, q _ _ (z8 _ [] [] upd_same ⟨rfl, rfl⟩ (List.nil_sublist _))⟩
  · cases z7
theorem RepOs.dropLast {mg : Str → Option Value} {S : Addr → Prop} {H : Hp} : ∀ {os : List O} {vs : List V} {as : List Addr}, RepOs mg S H os vs as → ∃ bs, RepOs mg S H os.dropLast vs.dropLast bs ∧ bs.Sublist as
  | [], vs, as, h => ⟨as, by obtain ⟨rfl, rfl⟩ := h; exact ⟨rfl, rfl⟩, List.Sublist.refl _⟩
  | [x], vs, as, h => by
    obtain ⟨v, r, cs, ds, rfl, rfl, h3, h4⟩ := h
    obtain ⟨rfl, rfl⟩ := h4
    exact ⟨[], ⟨rfl, rfl⟩, List.nil_sublist _⟩
  | x :: y :: xs, vs, as, h => by
    obtain ⟨v, r, cs, ds, rfl, rfl, h3, h4⟩ := h
    obtain ⟨bs, q1, q2⟩ := RepOs.dropLast h4
    have hr : r ≠ [] := by
      obtain ⟨_, _, _, _, e, _⟩ := h4
      rw [e]
      exact List.cons_ne_nil _ _
    refine ⟨cs ++ bs, ?_, List.Sublist.append_left q2 _⟩
    rw [List.dropLast_cons_of_ne_nil (List.cons_ne_nil _ _), List.dropLast_cons_of_ne_nil hr]
    exact ⟨v, _, cs, bs, rfl, rfl, h3, q1⟩
/-- x.pop() -/
theorem es_pop {i : Nat} {p : List Stp} (h : PS X st (tDrop (tBM0 X.K "list" rPop (tPath X.mg i p)))) : ES X st (sPop i p) := ps_imp h fun De σ H ⟨Sc, H0, t, out, j, hf, q⟩ => by
  obtain ⟨x, x', h2, h3, rfl⟩ := sMod_some hf
  obtain ⟨A, r, nd, fr, e0, hs⟩ := j
  obtain ⟨v, a, k, os, vs, cs, k', os', z1, z2, z3, z4, z5, z6, z7, z8⟩ := J.mod r nd fr e0 hs h2 h3
  unfold mPop at z7
  split at z7
  · obtain ⟨hne, z7⟩ := ite_some z7
    cases z7
    have hl : 0 < vs.length := by
      rw [z5.length]
      exact List.length_pos_iff.mpr hne
    obtain ⟨bs, w1, w2⟩ := (z5.upd (u := .lst vs.dropLast) (.inr z3) z6).dropLast
    exact ⟨v, .ref a, z1, z2, .inl ⟨rfl, vs, SqL.of z4⟩, a, vs, vs[vs.length - 1]'(by omega), rfl, rfl, z4, List.getElem?_eq_getElem (by omega), q _ _ (z8 _ vs.dropLast bs upd_same w1 w2)⟩
  · cases z7
/-- x.extend(e) -/
theorem es_ext {i : Nat} {p : List Stp} (h : PS X st (tDrop (tBM X.K "list" rExtend (tPath X.mg i p) (tCons (tBr X.mg f) tNil)))) : ES X st (sExt i p f) := ps_imp h fun De σ H ⟨Sc, H0, t, out, j, hf, q⟩ => by
  obtain ⟨o, h1, hf⟩ := bind_some hf
  split at hf
  · rename_i ds ht
    obtain ⟨x, x', h2, h3, rfl⟩ := sMod_some hf
    obtain ⟨A, r, nd, fr, e0, hs⟩ := j
    obtain ⟨v, a, k, os, vs, cs, k', os', z1, z2, z3, z4, z5, z6, z7, _⟩ := J.mod r nd fr e0 hs h2 h3
    unfold mExt at z7
    split at z7
    · refine ⟨v, .ref a, z1, z2, .inl ⟨rfl, vs, SqL.of z4⟩, ?_⟩
      refine ⟨_, t, A, o, r, J.in r e0 hs, h1, fun y H' as e ro => ?_⟩
      obtain ⟨k2, os2, vs2, cs2, k3, os3, y3, y4, y5, y6, y7, y8⟩ := mod_two r nd fr e0 hs h2 h3 z1 z2 e
      unfold mExt at y7
      split at y7
      · obtain ⟨hz, y7⟩ := ite_some y7
        cases y7
        obtain ⟨b, us, rfl, b1, b2⟩ := ro.top ht
        refine ⟨a, b, vs2, us, rfl, rfl, y4, b1, by rw [y5.length, b2.length]; exact big_line hz, q _ _ (y8 _ (vs2 ++ us) (cs2 ++ []) upd_same ?_ (by rw [List.append_nil]; exact List.Sublist.refl _))⟩
        exact (y5.upd (.inr y3) y6).app (b2.upd (.inr y3)).vals
      · cases y7
    · cases z7
  · cases hf
end
end Den

/-! Den7b: fields of instances. -/
namespace Den
open PySem L2
/-- the classes that have a field -/
def clsOf (cl : List (Str × List Str)) (f : Str) : List Str := (cl.filter fun q => q.2.contains f).map (·.1)
/-- a field, where the class is known -/
def O.fieldC (cs : List Str) (f : Str) (x : O) : Option O := match x with
  | .val (.nd (.ins c ns) ds) => if cs.contains c = true then ((ns.zip ds).lookup f).map O.val else none
  | .nd (.ins c ns) os => if cs.contains c = true then (ns.zip os).lookup f else none
  | _ => none
def bFldC (cs : List Str) (f : Str) (a : VE) : VE := v1 (O.fieldC cs f) a
theorem Reps.lookup {mg : Str → Option Value} {S : Addr → Prop} {H : Hp} {f : Str} : ∀ {ns : List Str} {ds : List D} {vs : List V} {d : D}, Reps mg S H ds vs → (ns.zip ds).lookup f = some d → ∃ v, (ns.zip vs).lookup f = some v ∧ Rep mg S H d v
  | [], ds, vs, d, _, h => by cases h
  | n :: ns, [], vs, d, _, h => by cases h
  | n :: ns, x :: ds, vs, d, r, h => by
    obtain ⟨v, q, rfl, r1, r2⟩ := r
    rw [List.zip_cons_cons, List.lookup_cons] at h
    rw [List.zip_cons_cons, List.lookup_cons]
    cases hy : f == n with
    | true =>
      rw [hy] at h
      cases h
      exact ⟨v, rfl, r1⟩
    | false =>
      rw [hy] at h
      exact Reps.lookup r2 h
theorem RepOs.lookup {mg : Str → Option Value} {S : Addr → Prop} {H : Hp} {f : Str} : ∀ {ns : List Str} {os : List O} {vs : List V} {bs : List Addr} {o : O}, RepOs mg S H os vs bs → (ns.zip os).lookup f = some o → ∃ v as, (ns.zip vs).lookup f = some v ∧ RepO mg S H o v as
  | [], os, vs, bs, o, _, h => by cases h
  | n :: ns, [], vs, bs, o, _, h => by cases h
  | n :: ns, x :: os, vs, bs, o, r, h => by
    obtain ⟨v, q, as, cs, rfl, rfl, r1, r2⟩ := r
    rw [List.zip_cons_cons, List.lookup_cons] at h
    rw [List.zip_cons_cons, List.lookup_cons]
    cases hy : f == n with
    | true =>
      rw [hy] at h
      cases h
      exact ⟨v, as, rfl, r1⟩
    | false =>
      rw [hy] at h
      exact RepOs.lookup r2 h
theorem eb_fldC {X : Cx} {a : Expr} {fa : VE} {f : Str} {pos : Pos} {cs : List Str} (hcl : ∀ c, cs.contains c = true → ∀ Ca, X.mg c = some (.ref Ca) → Cls X.K Ca ∧ NoAttr X.K Ca f) (ha : EB X a fa) (hb : attributeBase a f X.env (eval a X.env) = eval a X.env) : EB X (.Attribute a f pos) (bFldC cs f fa) := by
  refine pe_imp (pe_fld ha hb) fun σ H Q ⟨S, t, A, o, rp, s, hf, q⟩ => ?_
  obtain ⟨x, h1, hf⟩ := bind_some hf
  refine ⟨S, t, A, x, rp, s, h1, fun v H1 as e r1 => ?_⟩
  unfold O.fieldC at hf
  split at hf
  · split at hf
    · rename_i c ns ds hc
      obtain ⟨d, hd, rfl⟩ := map_some hf
      obtain ⟨_, p, vs, rfl, _, ⟨_, Ca, dx, hm, hp⟩, rr⟩ := r1
      obtain ⟨u, hu, ru⟩ := rr.lookup hd
      exact ⟨p, Ca, dx, _, u, rfl, hp, (hcl _ hc Ca hm).1, (hcl _ hc Ca hm).2, hu, q u H1 [] e ⟨rfl, ru⟩⟩
    · cases hf
  · split at hf
    · rename_i c ns os hc
      obtain ⟨p, vs, bs, rfl, _, ⟨_, Ca, dx, hm, hp⟩, rr⟩ := r1
      obtain ⟨u, cs, hu, ru⟩ := rr.lookup hf
      exact ⟨p, Ca, dx, _, u, rfl, hp, (hcl _ hc Ca hm).1, (hcl _ hc Ca hm).2, hu, q u H1 cs e ru⟩
    · cases hf
  · cases hf
/-! ### methods -/
def O.insOf (x : O) : Option (Str × List Str) := match x with
  | .val (.nd (.ins c ns) _) => some (c, ns)
  | _ => none
/-- x.m(..): the def that the class of x has -/
def vMeth (tb : List (Str × Nat × Fn)) (m : Str) (r : VE) (as : List AE) : VE := fun t => (r t).bind fun x => x.fz.insOf.bind fun c => if c.2.contains m = true then none else (tb.lookup c.1).bind fun nF => if nF.1 = as.length + 1 then vCall nF.2 (aPl r :: as) t else none
/-- the first argument, the others, and what the first one is -/
theorem ar_cons {mg : Str → Option Value} {f : VE} {fs : List AE} {σ : St} {H : Hp} {S : Addr → Prop} {t : Tau} {A : List Addr} {qq : List O × Bool} {Q : List V → Hp → Prop} {P : V → Hp → Prop} (rp : RepSl mg S H t σ A) (s : ∀ a, S a → H a ≠ none) (hf : aAll (aPl f :: fs) t = some qq)
    (hP : ∀ x v H1, f t = some x → Rep mg noS H1 x.toD v → P v H1) (q : ∀ vs H' as, Same H H' → RepOs mg (fun a => qq.2 = true ∧ (S a ∨ a ∈ as)) H' qq.1 vs as → as.Nodup → (∀ a ∈ as, H a = none) → Q vs H') : tBr mg f σ H fun v H1 => P v H1 ∧ tAr mg fs σ H1 fun vs H2 => Q (v :: vs) H2 := by
  obtain ⟨p, h1, hf⟩ := bind_some hf
  obtain ⟨xs, h2, rfl⟩ := map_some hf
  obtain ⟨o, h3, rfl⟩ := map_some h1
  refine ⟨S, t, A, o, rp, s, h3, fun v H1 as e1 r1 => ⟨hP o v H1 h3 r1.any, ?_⟩⟩
  refine ⟨S, t, A, xs, rp.same e1, hS s e1, h2, fun vs H2 bs e2 r2 nd2 fr2 => ?_⟩
  refine q (v :: vs) H2 bs (e1.trans e2) ⟨v, vs, [], bs, rfl, rfl, ⟨rfl, ?_⟩, r2.less fun a z => ⟨(Bool.and_eq_true_iff.mp z.1).2, z.2⟩⟩ nd2 fun z hz => e1.free (fr2 z hz)
  match o, r1 with
  | .val d, r1 =>
    refine off1 (fun a z => ?_) (fun a o _ z => e2 a o z) r1.2
    rcases z.2 with z | z
    · exact .inl z
    · exact .inr (fr2 a z)
  | .nd k ys, r1 =>
    refine ((r1.any).same e2).less fun a z => ?_
    have z1 : (false && xs.2) = true := z.1
    rw [Bool.false_and] at z1
    cases z1
/-- a class's method that may be called -/
def Met (P : Program) (w : World) (K : PySem.W.Frag) (mg : Str → Option Value) (base : Heap) (A : Around) (m c : Str) (n : Nat) (F : Fn) : Prop :=
  ∃ (Ca f : Addr) (fd : FuncData) (ps : List Str) (k : Nat), mg c = some (.ref Ca) ∧ Cls K Ca ∧ Meth K Ca m f ∧ FnOk P w K mg base CX0 k f fd ps (spD mg n F) ∧ Room k A ∧ Binds K fd ps []
theorem lookup_zip_none {α : Type} {m : Str} : ∀ {ns : List Str} {vs : List α}, ns.contains m = false → (ns.zip vs).lookup m = none
  | [], vs, _ => rfl
  | n :: ns, [], _ => rfl
  | n :: ns, v :: vs, h => by
    rw [List.contains_cons, Bool.or_eq_false_iff] at h
    rw [List.zip_cons_cons, List.lookup_cons, h.1]
    exact lookup_zip_none h.2
theorem pe_ex {ι : Type} {X : Cx} {e : Expr} {t : ι → TE} (h : ∀ i, PE X e (t i)) : PE X e (fun σ H Q => ∃ i, t i σ H Q) := ⟨fun pins s σ H Q I ⟨i, q⟩ => (h i).run pins s σ H Q I q⟩
/-- a method of which some class's def is meant -/
theorem ev_meth {X : Cx} {o : Expr} {args : List Expr} {m : Str} {tb : List (Str × Nat × Fn)} {r : VE} {as : List AE} {apos pos : Pos} (ht : ∀ c n F, tb.lookup c = some (n, F) → Met X.prog X.w X.K X.mg X.base X.A m c n F) (hl : as.length = args.length)
    (hp : ∀ (C f : Addr) (fd : FuncData) (ps : List Str) (k n : Nat) (F : Fn), Cls X.K C → Meth X.K C m f → FnOk X.prog X.w X.K X.mg X.base CX0 k f fd ps (spD X.mg n F) → Room k X.A → Binds X.K fd ps [] → PE X (.Call (.Attribute o m apos) args [] pos) (tMeth C m (spD X.mg n F) [] E0 (tBr X.mg r) (tAr X.mg as))) :
    EV X (.Call (.Attribute o m apos) args [] pos) (vMeth tb m r as) := by
  refine pe_imp (pe_ex (ι := { p : Str × Nat × Fn // tb.lookup p.1 = some p.2 }) (t := fun i σ H Q => ∃ C, X.mg i.1.1 = some (.ref C) ∧ tMeth C m (spD X.mg i.1.2.1 i.1.2.2) [] E0 (tBr X.mg r) (tAr X.mg as) σ H Q) fun i => ?_) fun σ H Q ⟨S, t, A, oo, rp, s, hf, q⟩ => ?_
  · obtain ⟨⟨c, n, F⟩, hi⟩ := i
    obtain ⟨Ca, f, fd, ps, k, h1, h2, h3, h4, h5, h6⟩ := ht c n F hi
    refine pe_imp (hp Ca f fd ps k n F h2 h3 h4 h5 h6) fun σ H Q ⟨C, hC, h⟩ => ?_
    rw [h1] at hC
    cases hC
    exact h
  · obtain ⟨x, h1, hf⟩ := bind_some hf
    obtain ⟨⟨c, ns⟩, h2, hf⟩ := bind_some hf
    split at hf
    · cases hf
    · rename_i hns
      obtain ⟨⟨n, F⟩, h3, hf⟩ := bind_some hf
      split at hf
      · rename_i hn
        obtain ⟨qq, g1, hf⟩ := bind_some hf
        obtain ⟨rr, g2, hf⟩ := bind_some hf
        obtain ⟨hk, he⟩ := ite_some hf
        obtain ⟨Ca, f, fd, ps, k, m1, m2, m3, m4, m5, m6⟩ := ht c n F h3
        refine ⟨⟨(c, n, F), h3⟩, Ca, m1, ?_⟩
        have z := ar_cons (mg := X.mg) (P := fun v H1 => ∃ a dx fs, v = .ref a ∧ H1 a = some (.ins Ca dx fs) ∧ fs.lookup m = none) (Q := fun vs H2 => spD X.mg n F vs H2 Q E0) rp s g1 (fun x' v H1 e1 r1 => ?_) (call_q (σ := σ) (E := E0) (by rw [List.length_cons]; exact hn.symm) s g1 g2 hk he q)
        · obtain ⟨S', t', A', o', z1, z2, z3, z4⟩ := z
          refine ⟨S', t', A', o', z1, z2, z3, fun v H1 as e r1 => ?_⟩
          obtain ⟨⟨a, dx, fs, p1, p2, p3⟩, p4⟩ := z4 v H1 as e r1
          refine ⟨a, dx, fs, p1, p2, p3, ?_⟩
          obtain ⟨S2, t2, A2, q2, y1, y2, y3, y4⟩ := p4
          exact ⟨S2, t2, A2, q2, y1, y2, y3, fun vs H2 bs e2 r2 nd fr => by show spD X.mg n F (v :: (vs ++ [])) H2 Q E0; rw [List.append_nil]; exact y4 vs H2 bs e2 r2 nd fr⟩
        · rw [h1] at e1
          cases e1
          have hx : ∃ ds, x.toD = .nd (.ins c ns) ds := by
            have h2 : (O.val x.toD).insOf = some (c, ns) := h2
            generalize x.toD = d at h2
            match d, h2 with
            | .nd (.ins c' ns') ds, h2 => cases h2; exact ⟨ds, rfl⟩
          obtain ⟨ds, hx⟩ := hx
          rw [hx] at r1
          obtain ⟨a, vs, rfl, _, ⟨_, C', dx, hc, ha⟩, _⟩ := r1
          rw [m1] at hc
          cases hc
          exact ⟨a, dx, _, rfl, ha, lookup_zip_none (by simpa using hns)⟩
      · cases hf
/-! ### isinstance of own classes -/
/-- what is known of an instance's class Ci, asked for Ca -/
structure IsIt (K : PySem.W.Frag) (Ci Ca : Addr) (b : Bool) : Prop where
  cl : Cls K Ci
  ha : PySem.W.findIn K (.ref Ci) "__class__" = some (some (.builtin "object.__class__"))
  hn : PySem.W.specialIn K (.builtin "object.__class__") "__get__" = some (some (.builtin "getset_descriptor.__get__"))
  tk : PySem.W.takesIn K (.builtin "object.__class__") = some true
  hm : PySem.W.mroIn K Ci (.type "object") = some true
  one : PySem.W.kitOne K (.ref Ci) (.ref Ca) = some b
def dIsO (tb : List (Str × Bool)) (x : O) : Option O := x.fz.insOf.bind fun c => (tb.lookup c.1).map O.bl
theorem ev_isO {X : Cx} {a b e : Expr} {fa : VE} {Ca : Addr} {tb : List (Str × Bool)} (hp : ∀ r t, CallR X (.builtin "isinstance") r → PA X [a, b] t → PE X e (tCB r t)) (ht : ∀ c k, tb.lookup c = some k → ∀ Ci, X.mg c = some (.ref Ci) → IsIt X.K Ci Ca k) (ha : EB X a fa) (hb : PE X b (tC (.ref Ca))) (hs : starEach [a, b] X.env = [(false, eval a X.env), (false, eval b X.env)]) (hs2 : starEach [b] X.env = [(false, eval b X.env)]) : EV X e (v1 (dIsO tb) fa) := by
  refine pe_imp (hp _ _ call_isi (pa_cons ha (pa_cons hb pa_nil hs2) (by rw [hs, hs2]))) fun σ H Q ⟨S, t, A, o, rp, s, hf, q⟩ => ?_
  obtain ⟨x, h1, hf⟩ := bind_some hf
  obtain ⟨⟨c, ns⟩, h2, hf⟩ := bind_some hf
  obtain ⟨k, h3, rfl⟩ := map_some hf
  refine ⟨S, t, A, x, rp, s, h1, fun v H1 as e r => ?_⟩
  have hx : ∃ ds, x.toD = .nd (.ins c ns) ds := by
    have h2 : (O.val x.toD).insOf = some (c, ns) := h2
    generalize x.toD = d at h2
    match d, h2 with
    | .nd (.ins c' ns') ds, h2 => cases h2; exact ⟨ds, rfl⟩
  obtain ⟨ds, hx⟩ := hx
  have r1 := r.any
  rw [hx] at r1
  obtain ⟨l, vs, rfl, _, ⟨_, Ci, dx, hc, hl⟩, _⟩ := r1
  have I := ht c k h3 Ci hc
  exact ⟨.ref l, .ref Ca, .ref Ci, .ref Ca, k, rfl, .own Ca, .base (.ins hl I.cl I.ha I.hn I.tk I.hm), I.one, q _ H1 [] e ⟨rfl, rfl⟩ List.nodup_nil (fun _ z => nomatch z)⟩
end Den

/-! Den8: what an expression of the text is worth, read off by a program; and that this is so. -/
namespace Den
open PySem L2

/-- what names are worth: defs (how many parameters, which are handed over, what they are worth), flat constants -/
structure Gam where
  fn : List (Str × Nat × List Bool × Fn)
  con : List (Str × V)
  /-- classes and their fields -/
  cl : List (Str × List Str)
  /-- methods: by the class -/
  mt : List (Str × List (Str × Nat × Fn))
  /-- isinstance: the class asked for, the instance's class -/
  isi : List (Str × List (Str × Bool))
/-- where one stands: the slots' names, the scope, which names a block owns as cells -/
structure Ce where
  N : List Str
  sc : Scope
  fb : Str → Bool
def Ce.ix (ce : Ce) (x : Str) : Option Nat := ce.N.findIdx? (· == x)
def Ce.vis (ce : Ce) (x : Str) : Bool := match ce.sc.names.lookup x with
  | some .local => true | some .cell => true | some .free => true | _ => false
def Ce.loc (ce : Ce) (x : Str) : Bool := match ce.sc.names.lookup x with
  | some .local => true | some .cell => ce.fb x | _ => false
def Ce.lc (ce : Ce) (x : Str) : Bool := match ce.sc.names.lookup x with
  | some .local => true | _ => false
def Ce.gl (ce : Ce) (x : Str) : Bool := match ce.sc.names.lookup x with
  | some .globalImplicit => true | _ => false
def okName (x : Str) : Bool := !(x == ("__debug__" : Str)) && !(x == ("__classdict__" : Str))
def isPlain : Expr → Bool
  | .Starred .. => false | .Set .. => false | .Slice .. => false | _ => true
def isAttr : Expr → Bool
  | .Attribute .. => true | _ => false
/-- what a field may be read of -/
def isBase : Expr → Bool
  | .Call (.Name _ _) [] [] _ => false | _ => true
/-- names whose dicts have tuples as keys -/
def tupName (x : Str) : Bool := x == ("_law_places" : Str) || x == ("_law_known" : Str) || x == ("_law_met" : Str)
def isLc : Expr → Bool
  | .ListComp .. => true | .SetComp .. => true | .DictComp .. => true | _ => false
/-- a test that is asked by its value's truth -/
def isBare : Expr → Bool
  | .UnaryOp .. => false | .BoolOp .. => false | .IfExp .. => false | .Compare .. => false | _ => true
def ownOfSc (ce : Ce) (scope : Scope) : List (Str × Nat) := scope.names.filterMap fun p => match p.2 with
  | .local => (ce.ix p.1).map fun i => (p.1, i)
  | .cell => (ce.ix p.1).map fun i => (p.1, i)
  | _ => none
def Ce.inner (ce : Ce) (scope : Scope) : Ce := ⟨ce.N, relS scope ce.sc, fun x => scope.names.lookup x == some .cell⟩
def cNames (ce : Ce) : List Expr → Option (List Nat)
  | [] => some []
  | .Name x _ :: r => if ce.loc x then (ce.ix x).bind fun i => (cNames ce r).map (i :: ·) else none
  | _ :: _ => none
def cG (ce : Ce) (vs : List Nat) : Expr → Option GE
  | .Name x _ => if ce.loc x then (ce.ix x).bind fun i => if i ∈ vs then some (gN i) else none else none
  | .Tuple es _ _ => (cNames ce es).bind fun is => if is.all (fun i => decide (i ∈ vs)) then some (gT is) else none
  | _ => none
/-- built-ins of one argument: by a name, as a class -/
def blt1 (x : Str) : Option (O → Option O) :=
  if x == ("len" : Str) then some dLen else if x == ("abs" : Str) then some dAbs else if x == ("int" : Str) then some dInt else if x == ("sum" : Str) then some dSum else if x == ("any" : Str) then some dAny2
  else if x == ("sorted" : Str) then some dSorted else if x == ("max" : Str) then some dMaxL else if x == ("all" : Str) then some dAll else if x == ("list" : Str) then some dList else if x == ("tuple" : Str) then some dTuple else none
def blt2 (x : Str) : Option (O → O → Option O) := if x == ("max" : Str) then some dMax else if x == ("min" : Str) then some dMin else none
/-- classes by name -/
def bltT (x : Str) : Option String :=
  if x == ("int" : Str) then some "int" else if x == ("bool" : Str) then some "bool" else if x == ("list" : Str) then some "list" else if x == ("tuple" : Str) then some "tuple" else if x == ("str" : Str) then some "str" else none

def vAO : BoolOp → VE → VE → VE
  | .And => vAnd | .Or => vOr
def bAO : BoolOp → BE → BE → BE
  | .And => bAnd | .Or => bOr
mutual
def cV (Γ : Gam) : Nat → Ce → Expr → Option VE
  | 0, _, _ => none
  | n + 1, ce, e => match e with
    | .Constant (.int i) _ _ => some (vC (.int i))
    | .Constant (.bool i) _ _ => some (vC (.bl i))
    | .Constant .none _ _ => some (vC .non)
    | .Constant (.str i) _ _ => some (vC (.str i))
    | .Name _ _ => (cB Γ n ce e).map vOf
    | .BinOp l op r _ => (cB Γ n ce l).bind fun a => (cB Γ n ce r).map fun b => vBin op a b
    | .UnaryOp .USub x _ => (cB Γ n ce x).map vNeg
    | .UnaryOp .Not x _ => (cB Γ n ce x).map vNot
    | .BoolOp op es _ => (cBo Γ n ce op es).map vOf
    | .Compare l [op] [r] _ => if isPlain r then (cC Γ n ce l).bind fun a => (cC Γ n ce r).map fun b => vCmp op a b else none
    | .Compare l [op, op'] [r, s] _ => if isPlain s then (cB Γ n ce l).bind fun a => (cB Γ n ce r).bind fun b => (cB Γ n ce s).map fun c => vChain op op' a b c else none
    | .Dict [] [] _ => some vDk
    | .Attribute _ _ _ => (cB Γ n ce e).map vOf
    | .IfExp c a b _ => (cT Γ n ce c).bind fun k => (cV Γ n ce a).bind fun x => (cV Γ n ce b).map fun y => vIf k x y
    | .List es _ => (cVs Γ n ce es).map (vNd .lst)
    | .Tuple es _ _ => (cVs Γ n ce es).map (vNd .tup)
    | .Subscript a (.Slice lo hi none _) _ => (cB Γ n ce a).bind fun x => (cO Γ n ce lo).bind fun l => (cO Γ n ce hi).map fun h => vSl x l h
    | .Subscript a (.Slice none none (some (.UnaryOp .USub (.Constant (.int k) _ _) _)) _) _ => if k = 1 then (cB Γ n ce a).map vRev else none
    | .Subscript _ _ _ => (cB Γ n ce e).map vOf
    | .ListComp elt [⟨tg, iter, ifs, as⟩] scope _ => if as = 0 ∧ isPlain iter ∧ blkC ce.N ce.sc scope (ownOfSc ce scope) = true then
        (if isAttr iter then (cB Γ n ce iter).map wTop else cW Γ n ce tg iter).bind fun w => (cG (ce.inner scope) ((ownOfSc ce scope).map (·.2)) tg).bind fun g => (cIf Γ n (ce.inner scope) ifs).bind fun c => (cV Γ n (ce.inner scope) elt).map fun x => vLc w ((ownOfSc ce scope).map (·.2)) g c x
      else none
    | .Call (.Name x _) args [] _ => if ce.gl x ∧ okName x then match Γ.fn.lookup x with
        | some (k, mv, F) => if args.length = k then (cAs Γ n ce mv args).map fun as => vCall F as else none
        | none => match args with
          | [a] => if isPlain a then (blt1 x).bind fun g => (cB Γ n ce a).map fun f => v1 g f else none
          | [a, b] => if isPlain a ∧ isPlain b then (if x == ("isinstance" : Str) then match b with
                | .Name y _ => if ce.gl y ∧ okName y then (match Γ.isi.lookup y with
                  | some tb => (cB Γ n ce a).map fun f => v1 (dIsO tb) f
                  | none => (bltT y).bind fun m => (cB Γ n ce a).map fun f => v1 (dIsB m) f) else none
                | _ => none
              else (blt2 x).bind fun g => (cB Γ n ce a).bind fun f => (cB Γ n ce b).map fun h => v2 g f h) else none
          | _ => none
      else none
    | .Call (.Attribute o m apos) args [] cpos => if isBase o ∧ (apos.endLine == cpos.line) = true ∧ args.all isPlain = true ∧ args.length < 20 then
        (if m == ("get" : Str) then match args with
          | [k, z] => (cB Γ n ce o).bind fun x => (cB Γ n ce k).bind fun y => (cB Γ n ce z).map fun w => vGet x y w
          | _ => none
        else if m == ("index" : Str) then match args with
          | [a] => (cB Γ n ce o).bind fun x => (cB Γ n ce a).map fun y => v2 dIndex x y
          | _ => none
        else match Γ.mt.lookup m with
          | some tb => if 0 < args.length then (cB Γ n ce o).bind fun r => (cAs Γ n ce [] args).map fun as => vMeth tb m r as else none
          | none => none)
      else none
    | _ => none
def cC (Γ : Gam) : Nat → Ce → Expr → Option VE
  | 0, _, _ => none
  | n + 1, ce, e => match e with
    | .Tuple es _ _ => if es.any isAttr then (cBs Γ n ce es).map (bNd .tup) else cB Γ n ce e
    | .List es _ => if es.any isAttr then (cBs Γ n ce es).map (bNd .lst) else cB Γ n ce e
    | e => cB Γ n ce e
def cBs (Γ : Gam) : Nat → Ce → List Expr → Option (List VE)
  | 0, _, _ => none
  | n + 1, ce, es => match es with
    | [] => some []
    | e :: r => if isPlain e then (cB Γ n ce e).bind fun f => (cBs Γ n ce r).map (f :: ·) else none
def cB (Γ : Gam) : Nat → Ce → Expr → Option VE
  | 0, _, _ => none
  | n + 1, ce, e => match e with
    | .Name x _ => if okName x then (if ce.vis x then (ce.ix x).map bVar else if ce.gl x then (Γ.con.lookup x).map vC else none) else none
    | .Subscript a b _ => if isPlain b then (cB Γ n ce a).bind fun f => (cB Γ n ce b).map fun g => bIx f g else (cV Γ n ce e).map bFz
    | .Attribute a f _ => if isBase a then (cB Γ n ce a).map fun x => bFldC (clsOf Γ.cl f) f x else none
    | _ => (cV Γ n ce e).map bFz
def cO (Γ : Gam) : Nat → Ce → Option Expr → Option (Option VE)
  | 0, _, _ => none
  | n + 1, ce, e => match e with
    | none => some none
    | some e => (cB Γ n ce e).map some
def cBo (Γ : Gam) : Nat → Ce → BoolOp → List Expr → Option VE
  | 0, _, _, _ => none
  | n + 1, ce, op, es => match es with
    | [a] => cB Γ n ce a
    | a :: b :: r => (cB Γ n ce a).bind fun x => (cBo Γ n ce op (b :: r)).map fun y => vAO op x y
    | [] => none
def cT (Γ : Gam) : Nat → Ce → Expr → Option BE
  | 0, _, _ => none
  | n + 1, ce, e => match e with
    | .UnaryOp .Not x _ => (cT Γ n ce x).map bNot
    | .BoolOp op es _ => cTo Γ n ce op es
    | .Compare l [op] [r] _ => if isPlain r then (cC Γ n ce l).bind fun a => (cC Γ n ce r).map fun b => bT (vCmp op a b) else none
    | .Compare l [op, op'] [r, s] _ => if isPlain s then (cB Γ n ce l).bind fun a => (cB Γ n ce r).bind fun b => (cB Γ n ce s).map fun c => bT (vChain op op' a b c) else none
    | e => if isBare e then (cB Γ n ce e).map bT else none
def cTo (Γ : Gam) : Nat → Ce → BoolOp → List Expr → Option BE
  | 0, _, _, _ => none
  | n + 1, ce, op, es => match es with
    | [a] => cT Γ n ce a
    | a :: b :: r => (cT Γ n ce a).bind fun x => (cTo Γ n ce op (b :: r)).map fun y => bAO op x y
    | [] => none
def cVs (Γ : Gam) : Nat → Ce → List Expr → Option (List VE)
  | 0, _, _ => none
  | n + 1, ce, es => match es with
    | [] => some []
    | e :: r => if isPlain e then (cV Γ n ce e).bind fun f => (cVs Γ n ce r).map (f :: ·) else none
def cAs (Γ : Gam) : Nat → Ce → List Bool → List Expr → Option (List AE)
  | 0, _, _, _ => none
  | n + 1, ce, mv, es => match es with
    | [] => some []
    | e :: r => if isPlain e then (match e with
        | .Name _ _ => (cB Γ n ce e).map aPl
        | .Subscript _ _ _ => (cB Γ n ce e).map aPl
        | .Attribute _ _ _ => (cB Γ n ce e).map aPl
        | e => if mv.headD false then (cV Γ n ce e).map aMv else (cV Γ n ce e).map aNp).bind fun f => (cAs Γ n ce (mv.drop 1) r).map (f :: ·) else none
def cIf (Γ : Gam) : Nat → Ce → List Expr → Option BE
  | 0, _, _ => none
  | n + 1, ce, es => match es with
    | [] => some bYes
    | [c] => cT Γ n ce c
    | _ => none
def cW (Γ : Gam) : Nat → Ce → Expr → Expr → Option WE
  | 0, _, _, _ => none
  | n + 1, ce, tg, it => match it with
    | .Call (.Name x _) args [] _ => if ce.gl x ∧ okName x ∧ Γ.fn.lookup x = none then
        (if x == ("range" : Str) then match args with
          | [a] => if isPlain a then (cB Γ n ce a).map wRange1 else none
          | [a, b] => if isPlain a ∧ isPlain b then (cB Γ n ce a).bind fun f => (cB Γ n ce b).map fun g => wRange2 f g else none
          | [a, b, c] => if isPlain a ∧ isPlain b ∧ isPlain c then (cB Γ n ce a).bind fun f => (cB Γ n ce b).bind fun g => (cB Γ n ce c).map fun h => wRange3 f g h else none
          | _ => none
        else if x == ("zip" : Str) then match tg, args with
          | .Tuple _ _ _, [a, b] => if isPlain a ∧ isPlain b then (cB Γ n ce a).bind fun f => (cB Γ n ce b).map fun g => wZip f g else none
          | _, _ => none
        else if x == ("enumerate" : Str) then match tg, args with
          | .Tuple _ _ _, [a] => if isPlain a then (cB Γ n ce a).map wEnum else none
          | _, _ => none
        else (cB Γ n ce it).map wSeq)
      else (cB Γ n ce it).map wSeq
    | it => (cB Γ n ce it).map wSeq
end
end Den

/-! Den9: expressions read off by the program are worth what it says. -/
namespace Den
open PySem L2
def bltNames : List Str := ["len", "abs", "int", "sum", "any", "all", "list", "tuple", "max", "min", "isinstance", "bool", "range", "zip", "enumerate", "sorted", "set", "str"]
structure Ctx (X : Cx) (Γ : Gam) (ce : Ce) : Prop where
  calm : X.calm = true
  nd : X.N.Nodup
  units : X.A.units + 64 < cLine
  units2 : X.A.units + 65 < cLine
  xe : X.xe = fun _ _ => False
  blt : ∀ x ∈ bltNames, X.mg x = none
  fns : ∀ x k mv F, Γ.fn.lookup x = some (k, mv, F) → Cal X.prog X.w X.K X.mg X.base X.A x k F
  con : ∀ x v, Γ.con.lookup x = some v → ∃ u, X.mg x = some u ∧ RelV v u
  cls : ∀ f c, (clsOf Γ.cl f).contains c = true → ∀ Ca, X.mg c = some (.ref Ca) → Cls X.K Ca ∧ NoAttr X.K Ca f
  mts : ∀ m tb, Γ.mt.lookup m = some tb → ∀ c n F, tb.lookup c = some (n, F) → Met X.prog X.w X.K X.mg X.base X.A m c n F
  isi : ∀ y tb, Γ.isi.lookup y = some tb → ∃ Ca, X.mg y = some (.ref Ca) ∧ ∀ c k, tb.lookup c = some k → ∀ Ci, X.mg c = some (.ref Ci) → IsIt X.K Ci Ca k
  N : X.N = ce.N
  sc : X.env.scope = ce.sc
  fb : ∀ x, ce.fb x = true → X.fn x = true
section
variable {X : Cx} {Γ : Gam} {ce : Ce}
theorem ix_get {x : Str} {i : Nat} (h : ce.ix x = some i) : ce.N[i]? = some x := by
  unfold Ce.ix at h
  obtain ⟨h1, h2, _⟩ := List.findIdx?_eq_some_iff_getElem.mp h
  rw [List.getElem?_eq_getElem h1]
  rw [beq_iff_eq.mp h2]
theorem Ctx.vis (C : Ctx X Γ ce) {x : Str} (h : ce.vis x = true) : Vis X.env.scope x := by
  rw [C.sc]
  unfold Ce.vis at h
  unfold Vis
  split at h
  · rename_i e; exact .inl e
  · rename_i e; exact .inr (.inl e)
  · rename_i e; exact .inr (.inr e)
  · cases h
theorem Ctx.gl (C : Ctx X Γ ce) {x : Str} (h : ce.gl x = true) : Gl X x := by
  unfold Gl Env.kindOf
  rw [C.sc]
  unfold Ce.gl at h
  split at h
  · rename_i e; exact e
  · cases h
theorem Ctx.loc (C : Ctx X Γ ce) {x : Str} (h : ce.loc x = true) : L2.Loc X.env.scope x ∧ (X.fn x = true ∨ X.env.scope.names.lookup x = some .local) := by
  rw [C.sc]
  unfold Ce.loc at h
  unfold L2.Loc
  split at h
  · rename_i e; exact ⟨.inl e, .inr e⟩
  · rename_i e; exact ⟨.inr e, .inl (C.fb x h)⟩
  · cases h
theorem okName_1 {x : Str} (h : okName x = true) : (x == ("__debug__" : Str)) = false := by
  unfold okName at h
  rw [Bool.and_eq_true] at h
  simpa using h.1
theorem okName_2 {x : Str} (h : okName x = true) : (x == ("__classdict__" : Str)) = false := by
  unfold okName at h
  rw [Bool.and_eq_true] at h
  simpa using h.2
theorem star1 {e : Expr} {es : List Expr} {env : Env} (h : isPlain e = true) : starEach (e :: es) env = (false, eval e env) :: starEach es env := by
  cases e <;> first | rfl | cases h
theorem star0 {env : Env} : starEach [] env = [] := rfl
theorem nomk {op : CmpOp} {e : Expr} (h : isPlain e = true) : behindInMarks op e = false := by
  cases e <;> first | rfl | cases h
theorem plainIx {e : Expr} (h : isPlain e = true) : PlainIx e := by
  intro o i
  cases e <;> first | rfl | cases h
theorem noSl {e : Expr} (h : isPlain e = true) : NoSl e := by
  intro o i
  cases e <;> first | rfl | cases h
theorem base_ok {o : Expr} {m : Str} {env : Env} (h : isBase o = true) : attributeBase o m env (eval o env) = eval o env := by
  unfold attributeBase
  split
  · rename_i id p pos
    cases h
  · rfl
theorem foldS {e : Expr} {env : Env} (h : isPlain e = true) : ∀ x, foldedSetIterable e env x = pure x := by
  intro x
  cases e <;> first | rfl | cases h
theorem bare {e : Expr} {env : Env} (h : isBare e = true) : ∀ whole, isTrue e env whole = (do let v ← whole; standAt e.pos; holding [v] (truthy v)) := by
  intro w
  cases e <;> first | rfl | cases h
/-! ### targets -/
theorem pgs_names (C : Ctx X Γ ce) : ∀ {es : List Expr} {is : List Nat}, cNames ce es = some is → PGs X es (gNames is) ∧ (assignEach es X.env).length = is.length ∧ (assignEach es X.env).findIdx? (·.1) = none ∧ es.length = is.length
  | [], is, h => by
    cases h
    exact ⟨pgs_nil, rfl, rfl, rfl⟩
  | .Name x p :: r, is, h => by
    have h : (if ce.loc x then (ce.ix x).bind fun i => (cNames ce r).map (i :: ·) else none) = some is := h
    by_cases hl : ce.loc x = true
    · rw [if_pos hl] at h
      obtain ⟨i, h1, h⟩ := bind_some h
      obtain ⟨is', h2, rfl⟩ := map_some h
      obtain ⟨q1, q2, q3, q4⟩ := pgs_names C h2
      obtain ⟨l1, l2⟩ := C.loc hl
      refine ⟨pgs_cons (pg_name C.nd (by rw [C.N]; exact ix_get h1) l1 l2) q1 rfl, ?_, ?_, ?_⟩
      · show (assignEach r X.env).length + 1 = is'.length + 1
        rw [q2]
      · show ((false, assign (.Name x p) X.env) :: assignEach r X.env).findIdx? (·.1) = none
        rw [List.findIdx?_cons]
        simp only [Bool.false_eq_true, if_false]
        rw [q3]
        rfl
      · show r.length + 1 = is'.length + 1
        rw [q4]
    · rw [if_neg hl] at h
      cases h
  | .BoolOp _ _ _ :: r, is, h => by cases h
  | .NamedExpr _ _ _ :: r, is, h => by cases h
  | .BinOp _ _ _ _ :: r, is, h => by cases h
  | .UnaryOp _ _ _ :: r, is, h => by cases h
  | .Lambda _ _ _ _ :: r, is, h => by cases h
  | .IfExp _ _ _ _ :: r, is, h => by cases h
  | .Dict _ _ _ :: r, is, h => by cases h
  | .Set _ _ _ :: r, is, h => by cases h
  | .ListComp _ _ _ _ :: r, is, h => by cases h
  | .SetComp _ _ _ _ :: r, is, h => by cases h
  | .DictComp _ _ _ _ _ :: r, is, h => by cases h
  | .GeneratorExp _ _ _ _ :: r, is, h => by cases h
  | .Await _ _ :: r, is, h => by cases h
  | .Yield _ _ :: r, is, h => by cases h
  | .YieldFrom _ _ :: r, is, h => by cases h
  | .Compare _ _ _ _ :: r, is, h => by cases h
  | .Call _ _ _ _ :: r, is, h => by cases h
  | .FormattedValue _ _ _ _ :: r, is, h => by cases h
  | .JoinedStr _ _ :: r, is, h => by cases h
  | .Constant _ _ _ :: r, is, h => by cases h
  | .Attribute _ _ _ :: r, is, h => by cases h
  | .Subscript _ _ _ :: r, is, h => by cases h
  | .Starred _ _ :: r, is, h => by cases h
  | .List _ _ :: r, is, h => by cases h
  | .Tuple _ _ _ :: r, is, h => by cases h
  | .Slice _ _ _ _ :: r, is, h => by cases h
theorem cG_ok (C : Ctx X Γ ce) {vs : List Nat} {tg : Expr} {g : GE} (h : cG ce vs tg = some g) : PG X tg (tG X.mg vs g) := by
  unfold cG at h
  split at h
  · rename_i x p
    by_cases hl : ce.loc x = true
    · rw [if_pos hl] at h
      obtain ⟨i, h1, h⟩ := bind_some h
      obtain ⟨hv, rfl⟩ := ite_some h
      obtain ⟨l1, l2⟩ := C.loc hl
      exact eg_name hv (pg_name C.nd (by rw [C.N]; exact ix_get h1) l1 l2)
    · rw [if_neg hl] at h
      cases h
  · rename_i es k p
    obtain ⟨is, h1, h⟩ := bind_some h
    obtain ⟨hv, rfl⟩ := ite_some h
    obtain ⟨q1, q2, q3, q4⟩ := pgs_names C h1
    exact eg_tup (fun i hi => of_decide_eq_true (List.all_eq_true.mp hv i hi)) (pg_tup C.calm q1 q2 q3)
  · cases h
/-! ### built-ins -/
theorem blt_cad (C : Ctx X Γ ce) {x : Str} {g : O → Option O} (h : blt1 x = some g) : (∃ id, CaD X (.builtin id) g ∧ X.mg x = none ∧ bootBuiltins x = some (.builtin id) ∧ x ≠ "__name__") ∨ ∃ T, CaD X (.type T) g ∧ X.mg x = none ∧ bootBuiltins x = some (.type T) ∧ x ≠ "__name__" := by
  unfold blt1 at h
  have mg0 := C.blt
  split at h
  · rename_i e; rw [beq_iff_eq.mp e]; cases h; exact .inl ⟨"len", cad_len, mg0 _ (by decide), by decide +kernel, by decide⟩
  · split at h
    · rename_i e; rw [beq_iff_eq.mp e]; cases h; exact .inl ⟨"abs", cad_abs, mg0 _ (by decide), by decide +kernel, by decide⟩
    · split at h
      · rename_i e; rw [beq_iff_eq.mp e]; cases h; exact .inr ⟨"int", cad_int, mg0 _ (by decide), by decide +kernel, by decide⟩
      · split at h
        · rename_i e; rw [beq_iff_eq.mp e]; cases h; exact .inl ⟨"sum", cad_sum C.calm, mg0 _ (by decide), by decide +kernel, by decide⟩
        · split at h
          · rename_i e; rw [beq_iff_eq.mp e]; cases h; exact .inl ⟨"any", cad_any2 C.calm, mg0 _ (by decide), by decide +kernel, by decide⟩
          · split at h
            · rename_i e; rw [beq_iff_eq.mp e]; cases h; exact .inl ⟨"sorted", cad_sorted C.calm, mg0 _ (by decide), by decide +kernel, by decide⟩
            · split at h
              · rename_i e; rw [beq_iff_eq.mp e]; cases h; exact .inl ⟨"max", cad_max C.calm, mg0 _ (by decide), by decide +kernel, by decide⟩
              · split at h
                · rename_i e; rw [beq_iff_eq.mp e]; cases h; exact .inl ⟨"all", cad_all C.calm, mg0 _ (by decide), by decide +kernel, by decide⟩
                · split at h
                  · rename_i e; rw [beq_iff_eq.mp e]; cases h; exact .inr ⟨"list", cad_list, mg0 _ (by decide), by decide +kernel, by decide⟩
                  · split at h
                    · rename_i e; rw [beq_iff_eq.mp e]; cases h; exact .inr ⟨"tuple", cad_tuple, mg0 _ (by decide), by decide +kernel, by decide⟩
                    · cases h
theorem bltT_ok (C : Ctx X Γ ce) {x : Str} {m : String} (h : bltT x = some m) : X.mg x = none ∧ bootBuiltins x = some (.type m) ∧ x ≠ "__name__" := by
  unfold bltT at h
  have mg0 := C.blt
  split at h
  · rename_i e; rw [beq_iff_eq.mp e]; cases h; exact ⟨mg0 _ (by decide), by decide +kernel, by decide⟩
  · split at h
    · rename_i e; rw [beq_iff_eq.mp e]; cases h; exact ⟨mg0 _ (by decide), by decide +kernel, by decide⟩
    · split at h
      · rename_i e; rw [beq_iff_eq.mp e]; cases h; exact ⟨mg0 _ (by decide), by decide +kernel, by decide⟩
      · split at h
        · rename_i e; rw [beq_iff_eq.mp e]; cases h; exact ⟨mg0 _ (by decide), by decide +kernel, by decide⟩
        · split at h
          · rename_i e; rw [beq_iff_eq.mp e]; cases h; exact ⟨mg0 _ (by decide), by decide +kernel, by decide⟩
          · cases h
/-- a block within -/
theorem Ctx.blk (C : Ctx X Γ ce) {s : Shared} {H : Hp} {scope : Scope} {cl : List (Str × Addr)} {A : Addr} {fp : List Addr} : Ctx (X.blk s H scope (compEnvC scope cl A X.env) fp) Γ (ce.inner scope) where
  calm := C.calm
  nd := C.nd
  units := C.units
  units2 := C.units2
  xe := rfl
  blt := C.blt
  fns := C.fns
  con := C.con
  cls := C.cls
  mts := C.mts
  isi := C.isi
  N := C.N
  sc := by
    show relabel scope X.env = relS scope ce.sc
    rw [← C.sc]
    rfl
  fb := fun x h => h
theorem pts_yes {X : Cx} : PTs X [] (tTs X.mg bYes) := ⟨fun pins s σ H Q I ⟨S, t, A, b, r, hs, hf, q⟩ => by
  cases hf
  exact pts_nil.run pins s σ H Q I (q H (Same.refl H))⟩
structure Snd (Γ : Gam) (n : Nat) : Prop where
  v : ∀ {X : Cx} {ce : Ce} {e : Expr} {f : VE}, Ctx X Γ ce → cV Γ n ce e = some f → EV X e f
  b : ∀ {X : Cx} {ce : Ce} {e : Expr} {f : VE}, Ctx X Γ ce → cB Γ n ce e = some f → EB X e f
  c : ∀ {X : Cx} {ce : Ce} {e : Expr} {f : VE}, Ctx X Γ ce → cC Γ n ce e = some f → EB X e f
  bs : ∀ {X : Cx} {ce : Ce} {es : List Expr} {fs : List VE}, Ctx X Γ ce → cBs Γ n ce es = some fs → PA X es (tBs X.mg fs)
  o : ∀ {X : Cx} {ce : Ce} {e : Option Expr} {f : Option VE}, Ctx X Γ ce → cO Γ n ce e = some f → (e = none ∧ f = none) ∨ ∃ e' f', e = some e' ∧ f = some f' ∧ EB X e' f'
  bo : ∀ {X : Cx} {ce : Ce} {op : BoolOp} {es : List Expr} {f : VE} {pos : Pos}, Ctx X Γ ce → cBo Γ n ce op es = some f → EB X (.BoolOp op es pos) f
  t : ∀ {X : Cx} {ce : Ce} {e : Expr} {f : BE}, Ctx X Γ ce → cT Γ n ce e = some f → ET X e f
  to : ∀ {X : Cx} {ce : Ce} {op : BoolOp} {es : List Expr} {f : BE} {pos : Pos}, Ctx X Γ ce → cTo Γ n ce op es = some f → EW X (.BoolOp op es pos) f
  vs : ∀ {X : Cx} {ce : Ce} {es : List Expr} {fs : List VE}, Ctx X Γ ce → cVs Γ n ce es = some fs → PA X es (tVs X.mg fs)
  as : ∀ {X : Cx} {ce : Ce} {mv : List Bool} {es : List Expr} {fs : List AE}, Ctx X Γ ce → cAs Γ n ce mv es = some fs → PA X es (tAr X.mg fs) ∧ fs.length = es.length ∧ es.all isPlain = true
  i : ∀ {X : Cx} {ce : Ce} {es : List Expr} {f : BE}, Ctx X Γ ce → cIf Γ n ce es = some f → PTs X es (tTs X.mg f)
  w : ∀ {X : Cx} {ce : Ce} {tg it : Expr} {f : WE}, Ctx X Γ ce → cW Γ n ce tg it = some f → EI X tg it f
theorem starAny {es : List Expr} {env : Env} {pos : Pos} (h : es.all isPlain = true) : (backTo pos (starEach es env)).any (·.1) = false := by
  induction es with
  | nil => rfl
  | cons e r ih =>
    rw [List.all_cons, Bool.and_eq_true] at h
    rw [star1 h.1]
    show (false || (backTo pos (starEach r env)).any (·.1)) = false
    rw [ih h.2]
    rfl
theorem snd_o {n : Nat} (S : Snd Γ n) {e : Option Expr} {f : Option VE} (C : Ctx X Γ ce) (h : cO Γ (n + 1) ce e = some f) : (e = none ∧ f = none) ∨ ∃ e' f', e = some e' ∧ f = some f' ∧ EB X e' f' := by
  cases e with
  | none => cases h; exact .inl ⟨rfl, rfl⟩
  | some e =>
    have h : (cB Γ n ce e).map some = some f := h
    obtain ⟨g, h1, rfl⟩ := map_some h
    exact .inr ⟨e, g, rfl, rfl, S.b C h1⟩
theorem snd_bo {n : Nat} (S : Snd Γ n) {op : BoolOp} {es : List Expr} {f : VE} {pos : Pos} (C : Ctx X Γ ce) (h : cBo Γ (n + 1) ce op es = some f) : EB X (.BoolOp op es pos) f := by
  match es, h with
  | [a], h => exact eb_one (S.b C (show cB Γ n ce a = some f from h))
  | a :: b :: r, h =>
    have h : ((cB Γ n ce a).bind fun x => (cBo Γ n ce op (b :: r)).map fun y => vAO op x y) = some f := h
    obtain ⟨x, h1, h⟩ := bind_some h
    obtain ⟨y, h2, rfl⟩ := map_some h
    cases op with
    | And => exact ev_and (S.b C h1) (S.bo C h2)
    | Or => exact ev_or (S.b C h1) (S.bo C h2)
theorem snd_to {n : Nat} (S : Snd Γ n) {op : BoolOp} {es : List Expr} {f : BE} {pos : Pos} (C : Ctx X Γ ce) (h : cTo Γ (n + 1) ce op es = some f) : EW X (.BoolOp op es pos) f := by
  match es, h with
  | [a], h =>
    have h' := S.t C (show cT Γ n ce a = some f from h)
    cases op with
    | And => exact ew_and1 h'
    | Or => exact ew_or1 h'
  | a :: b :: r, h =>
    have h : ((cT Γ n ce a).bind fun x => (cTo Γ n ce op (b :: r)).map fun y => bAO op x y) = some f := h
    obtain ⟨x, h1, h⟩ := bind_some h
    obtain ⟨y, h2, rfl⟩ := map_some h
    cases op with
    | And => exact ew_and (S.t C h1) (S.to C h2)
    | Or => exact ew_or (S.t C h1) (S.to C h2)
theorem snd_vs {n : Nat} (S : Snd Γ n) {es : List Expr} {fs : List VE} (C : Ctx X Γ ce) (h : cVs Γ (n + 1) ce es = some fs) : PA X es (tVs X.mg fs) := by
  match es, h with
  | [], h => cases h; exact pa_vs0
  | e :: r, h =>
    have h : (if isPlain e then (cV Γ n ce e).bind fun f => (cVs Γ n ce r).map (f :: ·) else none) = some fs := h
    by_cases hp : isPlain e = true
    · rw [if_pos hp] at h
      obtain ⟨f, h1, h⟩ := bind_some h
      obtain ⟨fs', h2, rfl⟩ := map_some h
      exact pa_vs1 (S.v C h1) (S.vs C h2) (star1 hp)
    · rw [if_neg hp] at h; cases h
theorem snd_bs {n : Nat} (S : Snd Γ n) {es : List Expr} {fs : List VE} (C : Ctx X Γ ce) (h : cBs Γ (n + 1) ce es = some fs) : PA X es (tBs X.mg fs) := by
  match es, h with
  | [], h => cases h; exact pa_bs0
  | e :: r, h =>
    have h : (if isPlain e then (cB Γ n ce e).bind fun f => (cBs Γ n ce r).map (f :: ·) else none) = some fs := h
    by_cases hp : isPlain e = true
    · rw [if_pos hp] at h
      obtain ⟨f, h1, h⟩ := bind_some h
      obtain ⟨fs', h2, rfl⟩ := map_some h
      exact pa_bs1 (S.b C h1) (S.bs C h2) (star1 hp)
    · rw [if_neg hp] at h; cases h
theorem snd_c {n : Nat} (S : Snd Γ n) {e : Expr} {f : VE} (C : Ctx X Γ ce) (h : cC Γ (n + 1) ce e = some f) : EB X e f := by
  unfold cC at h
  split at h
  · split at h
    · obtain ⟨fs, h1, rfl⟩ := map_some h
      exact eb_tup (S.bs C h1)
    · exact S.b C h
  · split at h
    · obtain ⟨fs, h1, rfl⟩ := map_some h
      exact eb_list (S.bs C h1)
    · exact S.b C h
  · exact S.b C h
theorem snd_as {n : Nat} (S : Snd Γ n) {mv : List Bool} {es : List Expr} {fs : List AE} (C : Ctx X Γ ce) (h : cAs Γ (n + 1) ce mv es = some fs) : PA X es (tAr X.mg fs) ∧ fs.length = es.length ∧ es.all isPlain = true := by
  match es, h with
  | [], h => cases h; exact ⟨pa_ar0, rfl, rfl⟩
  | e :: r, h =>
    have h : (if isPlain e then (match e with
        | .Name _ _ => (cB Γ n ce e).map aPl
        | .Subscript _ _ _ => (cB Γ n ce e).map aPl
        | .Attribute _ _ _ => (cB Γ n ce e).map aPl
        | e => if mv.headD false then (cV Γ n ce e).map aMv else (cV Γ n ce e).map aNp).bind fun f => (cAs Γ n ce (mv.drop 1) r).map (f :: ·) else none) = some fs := h
    by_cases hp : isPlain e = true
    · rw [if_pos hp] at h
      obtain ⟨f, h1, h⟩ := bind_some h
      obtain ⟨fs', h2, rfl⟩ := map_some h
      have h3 : EA X e f := by
        split at h1
        · obtain ⟨g, h3, rfl⟩ := map_some h1
          exact ea_pl (S.b C h3)
        · obtain ⟨g, h3, rfl⟩ := map_some h1
          exact ea_pl (S.b C h3)
        · obtain ⟨g, h3, rfl⟩ := map_some h1
          exact ea_pl (S.b C h3)
        · split at h1
          · obtain ⟨g, h3, rfl⟩ := map_some h1
            exact ea_mv (S.v C h3)
          · obtain ⟨g, h3, rfl⟩ := map_some h1
            exact ea_np (S.v C h3)
      obtain ⟨q1, q2, q3⟩ := S.as C h2
      exact ⟨pa_ar1 h3 q1 (star1 hp), by rw [List.length_cons, List.length_cons, q2], by rw [List.all_cons, hp, q3]; rfl⟩
    · rw [if_neg hp] at h; cases h
theorem snd_i {n : Nat} (S : Snd Γ n) {es : List Expr} {f : BE} (C : Ctx X Γ ce) (h : cIf Γ (n + 1) ce es = some f) : PTs X es (tTs X.mg f) := by
  match es, h with
  | [], h => cases h; exact pts_yes
  | [c], h => exact pts_one (S.t C (show cT Γ n ce c = some f from h))
  | _ :: _ :: _, h => cases h
theorem snd_t {n : Nat} (S : Snd Γ n) {e : Expr} {f : BE} (C : Ctx X Γ ce) (h : cT Γ (n + 1) ce e = some f) : ET X e f := by
  have rest : ∀ e, isBare e = true → (cB Γ n ce e).map bT = some f → ET X e f := fun e hb h => by
    obtain ⟨g, h1, rfl⟩ := map_some h
    exact et_val (S.b C h1) (bare hb)
  unfold cT at h
  split at h
  · obtain ⟨g, h1, rfl⟩ := map_some h
    exact et_not (S.t C h1)
  · exact (S.to C h).pt
  · rename_i l op r p
    by_cases hp : isPlain r = true
    · rw [if_pos hp] at h
      obtain ⟨x, h1, h⟩ := bind_some h
      obtain ⟨y, h2, rfl⟩ := map_some h
      exact et_cmp C.units (S.c C h1) (S.c C h2) (nomk hp)
    · rw [if_neg hp] at h; cases h
  · rename_i l op op' r s p
    by_cases hp : isPlain s = true
    · rw [if_pos hp] at h
      obtain ⟨x, h1, h⟩ := bind_some h
      obtain ⟨y, h2, h⟩ := bind_some h
      obtain ⟨z, h3, rfl⟩ := map_some h
      exact et_chain C.units fun r1 r2 o1 o2 => pt_chain o1 o2 (S.b C h1) (S.b C h2) (S.b C h3) (nomk (op := op') hp)
    · rw [if_neg hp] at h; cases h
  · by_cases hb : isBare e = true
    · rw [if_pos hb] at h
      exact rest e hb h
    · rw [if_neg hb] at h; cases h
theorem snd_b {n : Nat} (S : Snd Γ n) {e : Expr} {f : VE} (C : Ctx X Γ ce) (h : cB Γ (n + 1) ce e = some f) : EB X e f := by
  have rest : (cV Γ n ce e).map bFz = some f → EB X e f := fun h => by
    obtain ⟨g, h1, rfl⟩ := map_some h
    exact eb_fz (S.v C h1)
  unfold cB at h
  split at h
  · rename_i x p
    by_cases hk : okName x = true
    · rw [if_pos hk] at h
      by_cases hv : ce.vis x = true
      · rw [if_pos hv] at h
        obtain ⟨i, h1, rfl⟩ := map_some h
        exact eb_var (pe_var (by rw [C.N]; exact ix_get h1) (C.vis hv) (okName_1 hk) (okName_2 hk))
      · rw [if_neg hv] at h
        by_cases hg : ce.gl x = true
        · rw [if_pos hg] at h
          obtain ⟨v, h1, rfl⟩ := map_some h
          obtain ⟨u, h2, h3⟩ := C.con x v h1
          have q := eb_fz (ev_c (pe_glob (C.gl hg) h2 h3 (okName_1 hk) (pos := p)))
          exact q
        · rw [if_neg hg] at h; cases h
    · rw [if_neg hk] at h; cases h
  · rename_i a b p
    by_cases hp : isPlain b = true
    · rw [if_pos hp] at h
      obtain ⟨x, h1, h⟩ := bind_some h
      obtain ⟨y, h2, rfl⟩ := map_some h
      exact eb_ix C.units (S.b C h1) (S.b C h2) (plainIx hp) (noSl hp)
    · rw [if_neg hp] at h
      exact rest h
  · rename_i a f p
    by_cases hb : isBase a = true
    · rw [if_pos hb] at h
      obtain ⟨x, h1, rfl⟩ := map_some h
      exact eb_fldC (C.cls f) (S.b C h1) (base_ok hb)
    · rw [if_neg hb] at h; cases h
  · exact rest h
theorem snd_w {n : Nat} (S : Snd Γ n) {tg it : Expr} {f : WE} (C : Ctx X Γ ce) (h : cW Γ (n + 1) ce tg it = some f) : EI X tg it f := by
  have rest : (cB Γ n ce it).map wSeq = some f → EI X tg it f := fun h => by
    obtain ⟨g, h1, rfl⟩ := map_some h
    exact ei_list (S.b C h1)
  unfold cW at h
  split at h
  · rename_i x p args p2
    by_cases hg : ce.gl x = true ∧ okName x = true ∧ Γ.fn.lookup x = none
    · rw [if_pos hg] at h
      split at h
      · rename_i ex
        have ex := beq_iff_eq.mp ex
        subst ex
        have m0 := C.blt "range" (by decide)
        split at h
        · rename_i a
          by_cases hp : isPlain a = true
          · rw [if_pos hp] at h
            obtain ⟨g, h1, rfl⟩ := map_some h
            exact ei_range1 (C.gl hg.1) m0 (S.b C h1) (star1 hp)
          · rw [if_neg hp] at h; cases h
        · rename_i a b
          by_cases hp : isPlain a = true ∧ isPlain b = true
          · rw [if_pos hp] at h
            obtain ⟨g, h1, h⟩ := bind_some h
            obtain ⟨g2, h2, rfl⟩ := map_some h
            exact ei_range2 (C.gl hg.1) m0 (S.b C h1) (S.b C h2) (by rw [star1 hp.1, star1 hp.2, star0]) (by rw [star1 hp.2, star0])
          · rw [if_neg hp] at h; cases h
        · rename_i a b c
          by_cases hp : isPlain a = true ∧ isPlain b = true ∧ isPlain c = true
          · rw [if_pos hp] at h
            obtain ⟨g, h1, h⟩ := bind_some h
            obtain ⟨g2, h2, h⟩ := bind_some h
            obtain ⟨g3, h3, rfl⟩ := map_some h
            exact ei_range3 (C.gl hg.1) m0 (S.b C h1) (S.b C h2) (S.b C h3) (star1 hp.1) (star1 hp.2.1) (by rw [star1 hp.2.2, star0])
          · rw [if_neg hp] at h; cases h
        · cases h
      · split at h
        · rename_i _ ex
          have ex := beq_iff_eq.mp ex
          subst ex
          have m0 := C.blt "zip" (by decide)
          split at h
          · rename_i a b
            by_cases hp : isPlain a = true ∧ isPlain b = true
            · rw [if_pos hp] at h
              obtain ⟨g, h1, h⟩ := bind_some h
              obtain ⟨g2, h2, rfl⟩ := map_some h
              exact ei_zip (C.gl hg.1) m0 (S.b C h1) (S.b C h2) (star1 hp.1) (by rw [star1 hp.2, star0])
            · rw [if_neg hp] at h; cases h
          · cases h
        · split at h
          · rename_i _ _ ex
            have ex := beq_iff_eq.mp ex
            subst ex
            have m0 := C.blt "enumerate" (by decide)
            split at h
            · rename_i a
              by_cases hp : isPlain a = true
              · rw [if_pos hp] at h
                obtain ⟨g, h1, rfl⟩ := map_some h
                exact ei_enum (C.gl hg.1) m0 (S.b C h1) (by rw [star1 hp, star0])
              · rw [if_neg hp] at h; cases h
            · cases h
          · exact rest h
    · rw [if_neg hg] at h
      exact rest h
  · exact rest h
theorem snd_call {n : Nat} (S : Snd Γ n) {x : Str} {p pos : Pos} {args : List Expr} {f : VE} (C : Ctx X Γ ce) (h : cV Γ (n + 1) ce (.Call (.Name x p) args [] pos) = some f) : EV X (.Call (.Name x p) args [] pos) f := by
  unfold cV at h
  dsimp only at h
  by_cases hg : ce.gl x = true ∧ okName x = true
  · rw [if_pos hg] at h
    split at h
    · rename_i k mv F hl
      by_cases hk : args.length = k
      · rw [if_pos hk] at h
        obtain ⟨as, h1, rfl⟩ := map_some h
        obtain ⟨q1, q2, q3⟩ := S.as C h1
        match args, hk, q1, q2, q3 with
        | [], hk, _, q2, _ =>
          have e0 : as = [] := List.eq_nil_of_length_eq_zero q2
          subst e0
          have hk : 0 = k := hk
          subst hk
          exact ev_cal0 (C.fns x 0 mv F hl) (C.gl hg.1) (okName_1 hg.2)
        | a :: r, hk, q1, q2, q3 =>
          rw [List.all_cons, Bool.and_eq_true] at q3
          exact ev_cal (C.fns x k mv F hl) (C.gl hg.1) (okName_1 hg.2) (by rw [q2]; exact hk) q1 (star1 q3.1) (starAny q3.2)
      · rw [if_neg hk] at h; cases h
    · split at h
      · rename_i a
        by_cases hp : isPlain a = true
        · rw [if_pos hp] at h
          obtain ⟨g, h1, h⟩ := bind_some h
          obtain ⟨ff, h2, rfl⟩ := map_some h
          rcases blt_cad C h1 with ⟨id, k1, k2, k3, k4⟩ | ⟨T, k1, k2, k3, k4⟩
          · exact ev_ca k1 (fun r t hr ha => pe_callB hr (C.gl hg.1) k2 k3 ha k4 (okName_1 hg.2) (by rw [star1 hp]) (starAny rfl)) (S.b C h2) (by rw [star1 hp, star0])
          · exact ev_ca k1 (fun r t hr ha => pe_callTy hr (C.gl hg.1) k2 k3 ha k4 (okName_1 hg.2) (by rw [star1 hp]) (starAny rfl)) (S.b C h2) (by rw [star1 hp, star0])
        · rw [if_neg hp] at h; cases h
      · rename_i a b
        by_cases hp : isPlain a = true ∧ isPlain b = true
        · rw [if_pos hp] at h
          split at h
          · rename_i ex
            have ex := beq_iff_eq.mp ex
            subst ex
            split at h
            · rename_i y p3
              by_cases hy : ce.gl y = true ∧ okName y = true
              · rw [if_pos hy] at h
                split at h
                · rename_i tb htb
                  obtain ⟨ff, h2, rfl⟩ := map_some h
                  obtain ⟨Ca, i1, i2⟩ := C.isi y tb htb
                  exact ev_isO (fun r t hr ha => pe_callB hr (C.gl hg.1) (C.blt "isinstance" (by decide)) (by decide +kernel) ha (by decide) (okName_1 hg.2) (by rw [star1 hp.1]) (starAny (by rw [List.all_cons, hp.2]; rfl))) i2 (S.b C h2)
                    (pe_glob (v := .ref Ca) (C.gl hy.1) i1 rfl (okName_1 hy.2)) (by rw [star1 hp.1, star1 hp.2, star0]) (by rw [star1 hp.2, star0])
                obtain ⟨m, h1, h⟩ := bind_some h
                obtain ⟨ff, h2, rfl⟩ := map_some h
                obtain ⟨k2, k3, k4⟩ := bltT_ok C h1
                exact ev_isB (fun r t hr ha => pe_callB hr (C.gl hg.1) (C.blt "isinstance" (by decide)) (by decide +kernel) ha (by decide) (okName_1 hg.2) (by rw [star1 hp.1]) (starAny (by rw [List.all_cons, hp.2]; rfl))) (S.b C h2)
                  (pe_bltn (v := .ty m) (C.gl hy.1) k2 k3 rfl k4 (okName_1 hy.2)) (by rw [star1 hp.1, star1 hp.2, star0]) (by rw [star1 hp.2, star0])
              · rw [if_neg hy] at h; cases h
            · cases h
          · obtain ⟨g, h1, h⟩ := bind_some h
            obtain ⟨fa, h2, h⟩ := bind_some h
            obtain ⟨fb, h3, rfl⟩ := map_some h
            have s1 : starEach [a, b] X.env = [(false, eval a X.env), (false, eval b X.env)] := by rw [star1 hp.1, star1 hp.2, star0]
            have s2 : starEach [b] X.env = [(false, eval b X.env)] := by rw [star1 hp.2, star0]
            unfold blt2 at h1
            split at h1
            · rename_i ex
              have ex := beq_iff_eq.mp ex
              subst ex
              cases h1
              exact ev_ca2 (call_max2 C.calm) (fun x y o h => i2_some h) (fun r t hr ha => pe_callB hr (C.gl hg.1) (C.blt "max" (by decide)) (by decide +kernel) ha (by decide) (okName_1 hg.2) (by rw [star1 hp.1]) (starAny (by rw [List.all_cons, hp.2]; rfl))) (S.b C h2) (S.b C h3) s1 s2
            · split at h1
              · rename_i ex
                have ex := beq_iff_eq.mp ex
                subst ex
                cases h1
                exact ev_ca2 (call_min2 C.calm) (fun x y o h => i2_some h) (fun r t hr ha => pe_callB hr (C.gl hg.1) (C.blt "min" (by decide)) (by decide +kernel) ha (by decide) (okName_1 hg.2) (by rw [star1 hp.1]) (starAny (by rw [List.all_cons, hp.2]; rfl))) (S.b C h2) (S.b C h3) s1 s2
              · cases h1
        · rw [if_neg hp] at h; cases h
      · cases h
  · rw [if_neg hg] at h; cases h
theorem form_ok {args : List Expr} {pos : Pos} {env : Env} (hp : args.all isPlain = true) (hl : args.length < 20) : methodCallForm (args.length + ([] : List Keyword).length) (backTo pos (starEach args env)) (backToKw pos (keywordEach [] env)) = true := by
  unfold methodCallForm
  have e1 : (backTo pos (starEach args env)).all (fun x => !x.1) = true := by
    clear hl
    induction args with
    | nil => rfl
    | cons a r ih =>
      rw [List.all_cons, Bool.and_eq_true] at hp
      rw [star1 hp.1]
      show (true && (backTo pos (starEach r env)).all (fun x => !x.1)) = true
      rw [ih hp.2]
      rfl
  rw [e1]
  have : args.length < 30 := by omega
  show (true && true && decide (args.length + 0 + 0 < 30)) = true
  rw [decide_eq_true (by omega)]
  rfl
theorem meth_eq {o : Expr} {m : Str} {args : List Expr} {apos pos : Pos} {env : Env} (hb : attributeBase o m env (eval o env) = eval o env) (hp : args.all isPlain = true) (hl : args.length < 20) (hline : (apos.endLine == pos.line) = true) :
    eval (.Call (.Attribute o m apos) args [] pos) env = (do
      let ov ← eval o env
      standAt apos.atName
      let (f, first) ← holding [ov] (getMethod ov m (do return (← importBound o env).getD true))
      callWith pos f first (backTo pos (starEach args env)) (backToKw pos (keywordEach [] env))) := by
  have hf := form_ok (pos := pos) (env := env) hp hl
  have e0 : eval (.Call (.Attribute o m apos) args [] pos) env = (do
      let ov ← attributeBase o m env (eval o env)
      standAt apos.atName
      methodCall o m apos pos env ov (args.length + ([] : List Keyword).length) (backTo pos (starEach args env)) (backToKw pos (keywordEach [] env))) := rfl
  rw [e0, hb]
  have e1 : ∀ ov, methodCall o m apos pos env ov (args.length + ([] : List Keyword).length) (backTo pos (starEach args env)) (backToKw pos (keywordEach [] env)) = (do
      let (f, first) ← holding [ov] (getMethod ov m (do return (← importBound o env).getD true))
      callWith pos f first (backTo pos (starEach args env)) (backToKw pos (keywordEach [] env))) := by
    intro ov
    unfold methodCall calleeOf methodCallPos
    rw [hf, hline]
    rfl
  simp only [e1]
theorem snd_meth {n : Nat} (S : Snd Γ n) {o : Expr} {m : Str} {apos pos : Pos} {args : List Expr} {f : VE} (C : Ctx X Γ ce) (h : cV Γ (n + 1) ce (.Call (.Attribute o m apos) args [] pos) = some f) : EV X (.Call (.Attribute o m apos) args [] pos) f := by
  unfold cV at h
  dsimp only at h
  by_cases hg : isBase o = true ∧ (apos.endLine == pos.line) = true ∧ args.all isPlain = true ∧ args.length < 20
  · rw [if_pos hg] at h
    obtain ⟨hb, hline, hpl, hl⟩ := hg
    split at h
    · rename_i em
      have em := beq_iff_eq.mp em
      subst em
      split at h
      · rename_i k z
        obtain ⟨x, h1, h⟩ := bind_some h
        obtain ⟨y, h2, h⟩ := bind_some h
        obtain ⟨w, h3, rfl⟩ := map_some h
        simp only [List.all_cons, List.all_nil, Bool.and_true, Bool.and_eq_true] at hpl
        refine ev_get C.units (S.b C h1) (S.b C h2) (S.b C h3) ⟨base_ok hb, ?_, hline, ?_⟩
        · rw [star1 hpl.1, star1 hpl.2, star0]
          rfl
        · rw [star1 hpl.1, star1 hpl.2, star0]
          rfl
      · cases h
    · split at h
      · rename_i em
        have em := beq_iff_eq.mp em
        subst em
        split at h
        · rename_i a
          obtain ⟨x, h1, h⟩ := bind_some h
          obtain ⟨y, h2, rfl⟩ := map_some h
          simp only [List.all_cons, List.all_nil, Bool.and_true] at hpl
          refine ev_index (apos := apos) (cpos := pos) C.units2 (fun r ta t hr h1 h2 => pe_bm PySem.F.plainAttrs_list PySem.F.slot_list_index PySem.F.type_list_index hr h1 h2 (base_ok hb) ?_ hline (star1 hpl) rfl) (S.b C h1) (S.b C h2) (by rw [star1 hpl, star0])
          rw [star1 hpl, star0]
          rfl
        · cases h
      · split at h
        · rename_i tb htb
          split at h
          · rename_i hlen
            obtain ⟨r, h1, h⟩ := bind_some h
            obtain ⟨as, h2, rfl⟩ := map_some h
            obtain ⟨q1, q2, q3⟩ := S.as C h2
            match args, hlen, hl, hpl, q1, q2, q3 with
            | [], hlen, _, _, _, _, _ => exact absurd hlen (by decide)
            | a :: rs, hlen, hl, hpl, q1, q2, q3 =>
              refine ev_meth (C.mts m tb htb) q2 fun Cc f fd ps k n F c1 c2 c3 c4 c5 => ?_
              have hpl2 := hpl
              rw [List.all_cons, Bool.and_eq_true] at hpl2
              exact pe_meth (S.b C h1) c1 c2 c3 c4 c5 .nil pass0 q1 (star1 hpl2.1) (starAny hpl2.2) (meth_eq (base_ok hb) hpl hl hline)
          · cases h
        · cases h
  · rw [if_neg hg] at h; cases h
end
end Den

/-! Den10: all expressions. -/
namespace Den
open PySem L2
section
variable {X : Cx} {Γ : Gam} {ce : Ce}
theorem snd_lc {n : Nat} (S : Snd Γ n) (C : Ctx X Γ ce) {elt tg iter : Expr} {ifs : List Expr} {as : Int} {scope : Scope} {pos : Pos} {f : VE} (h : cV Γ (n + 1) ce (.ListComp elt [⟨tg, iter, ifs, as⟩] scope pos) = some f) :
    ∃ w g c x, as = 0 ∧ f = vLc w ((ownOfSc ce scope).map (·.2)) g c x ∧ EIc X tg iter w ∧ BlkOk X.N X.env.scope scope (ownOfSc ce scope) ∧
      (∀ (s : Shared) (H : Hp) (C : Addr) (cl : List (Str × Addr)) (fp : List Addr), PG (X.blk s H scope (compEnvC scope cl C X.env) fp) tg (tG X.mg ((ownOfSc ce scope).map (·.2)) g)) ∧
      (∀ (s : Shared) (H : Hp) (C : Addr) (cl : List (Str × Addr)) (fp : List Addr), PTs (X.blk s H scope (compEnvC scope cl C X.env) fp) ifs (tTs X.mg c)) ∧
      (∀ (s : Shared) (H : Hp) (C : Addr) (cl : List (Str × Addr)) (fp : List Addr), PE (X.blk s H scope (compEnvC scope cl C X.env) fp) elt (tV X.mg x)) ∧ ∀ x, foldedSetIterable iter X.env x = pure x := by
  unfold cV at h
  dsimp only at h
  by_cases hk : as = 0 ∧ isPlain iter = true ∧ blkC ce.N ce.sc scope (ownOfSc ce scope) = true
  · rw [if_pos hk] at h
    obtain ⟨w, h1, h⟩ := bind_some h
    obtain ⟨g, h2, h⟩ := bind_some h
    obtain ⟨c, h3, h⟩ := bind_some h
    obtain ⟨x, h4, rfl⟩ := map_some h
    have hw : EIc X tg iter w := by
      split at h1
      · obtain ⟨q, q1, rfl⟩ := map_some h1
        exact eic_top (S.b C q1)
      · exact (S.w C h1).toC
    refine ⟨w, g, c, x, hk.1, rfl, hw, ?_, fun s H A cl fp => cG_ok C.blk h2, fun s H A cl fp => S.i C.blk h3, fun s H A cl fp => S.v C.blk h4, foldS hk.2.1⟩
    rw [C.N, C.sc]
    exact blkOk_by hk.2.2
  · rw [if_neg hk] at h; cases h
theorem snd_v {n : Nat} (S : Snd Γ n) {e : Expr} {f : VE} (C : Ctx X Γ ce) (h : cV Γ (n + 1) ce e = some f) : EV X e f := by
  have place : (cB Γ n ce e).map vOf = some f → EV X e f := fun h => by
    obtain ⟨g, h1, rfl⟩ := map_some h
    exact ev_of (S.b C h1)
  have h0 := h
  unfold cV at h
  split at h
  · cases h; exact ev_c pe_int
  · cases h; exact ev_c pe_bl
  · cases h; exact ev_c pe_non
  · cases h; exact ev_c pe_str
  · exact place h
  · obtain ⟨x, h1, h⟩ := bind_some h
    obtain ⟨y, h2, rfl⟩ := map_some h
    exact ev_bin (S.b C h1) (S.b C h2)
  · obtain ⟨x, h1, rfl⟩ := map_some h
    exact ev_neg (S.b C h1)
  · obtain ⟨x, h1, rfl⟩ := map_some h
    exact ev_not (S.b C h1)
  · obtain ⟨x, h1, rfl⟩ := map_some h
    exact ev_of (S.bo C h1)
  · rename_i l op r p
    by_cases hp : isPlain r = true
    · rw [if_pos hp] at h
      obtain ⟨x, h1, h⟩ := bind_some h
      obtain ⟨y, h2, rfl⟩ := map_some h
      exact ev_cmp C.units (S.c C h1) (S.c C h2) (nomk hp)
    · rw [if_neg hp] at h; cases h
  · rename_i l op op' r s p
    by_cases hp : isPlain s = true
    · rw [if_pos hp] at h
      obtain ⟨x, h1, h⟩ := bind_some h
      obtain ⟨y, h2, h⟩ := bind_some h
      obtain ⟨z, h3, rfl⟩ := map_some h
      exact ev_chain C.units (S.b C h1) (S.b C h2) (S.b C h3) fun r1 r2 o1 o2 => pe_chain o1 o2 (S.b C h1) (S.b C h2) (S.b C h3) (nomk (op := op') hp)
    · rw [if_neg hp] at h; cases h
  · cases h; exact ev_dk
  · exact place h
  · obtain ⟨k, h1, h⟩ := bind_some h
    obtain ⟨x, h2, h⟩ := bind_some h
    obtain ⟨y, h3, rfl⟩ := map_some h
    exact ev_if (S.t C h1) (S.v C h2) (S.v C h3)
  · obtain ⟨x, h1, rfl⟩ := map_some h
    exact ev_list (S.vs C h1)
  · obtain ⟨x, h1, rfl⟩ := map_some h
    exact ev_tup (S.vs C h1)
  · obtain ⟨x, h1, h⟩ := bind_some h
    obtain ⟨lo, h2, h⟩ := bind_some h
    obtain ⟨hi, h3, rfl⟩ := map_some h
    exact ev_sl (S.b C h1) (S.o C h2) (S.o C h3)
  · split at h
    · rename_i hk
      subst hk
      obtain ⟨x, h1, rfl⟩ := map_some h
      exact ev_rev (S.b C h1)
    · cases h
  · exact place h
  · obtain ⟨w, g, c, x, rfl, rfl, hw, ok, hg, ht, he, hs⟩ := snd_lc S C h0
    exact pe_imp (pe_lc C.calm C.nd hw ok hg ht he hs) fun σ H Q q => lc_go q
  · exact snd_call S C h0
  · exact snd_meth S C h0
  · cases h
theorem snd (Γ : Gam) : ∀ n, Snd Γ n
  | 0 => {
      v := fun _ h => by unfold cV at h; cases h
      b := fun _ h => by unfold cB at h; cases h
      c := fun _ h => by unfold cC at h; cases h
      bs := fun _ h => by unfold cBs at h; cases h
      o := fun _ h => by unfold cO at h; cases h
      bo := fun _ h => by unfold cBo at h; cases h
      t := fun _ h => by unfold cT at h; cases h
      to := fun _ h => by unfold cTo at h; cases h
      vs := fun _ h => by unfold cVs at h; cases h
      as := fun _ h => by unfold cAs at h; cases h
      i := fun _ h => by unfold cIf at h; cases h
      w := fun _ h => by unfold cW at h; cases h }
  | n + 1 => have S := snd Γ n
    ⟨fun C h => snd_v S C h, fun C h => snd_b S C h, fun C h => snd_c S C h, fun C h => snd_bs S C h, fun C h => snd_o S C h, fun C h => snd_bo S C h, fun C h => snd_t S C h, fun C h => snd_to S C h, fun C h => snd_vs S C h, fun C h => snd_as S C h, fun C h => snd_i S C h, fun C h => snd_w S C h⟩
end
end Den

/-! Den11: statements and defs read off by the program. -/
namespace Den
open PySem L2
/-- defs that may hand back what they were handed -/
def fzFn (x : Str) : Bool := x == ("_law_walk" : Str)
/-- fields that are numbers -/
def flatF (f : Str) : Bool := f == ("tail" : Str) || f == ("length" : Str) || f == ("share" : Str) || f == ("place" : Str)
/-- names whose things are shared by an expression -/
def esc : Nat → Bool → Expr → List Str
  | 0, _, _ => []
  | n + 1, v, e => match e with
    | .Name x _ => if v then [x] else []
    | .BinOp l _ r _ => esc n false l ++ esc n false r
    | .UnaryOp _ x _ => esc n false x
    | .BoolOp _ es _ => es.flatMap (esc n false)
    | .Compare l _ rs _ => esc n false l ++ rs.flatMap (esc n false)
    | .IfExp c a b _ => esc n false c ++ esc n v a ++ esc n v b
    | .List es _ => es.flatMap (esc n true)
    | .Tuple es _ _ => es.flatMap (esc n true)
    | .Subscript a b _ => esc n false a ++ esc n false b
    | .Attribute a f _ => esc n (v && !flatF f) a
    | .Slice lo hi st _ => (lo.map (esc n false)).getD [] ++ (hi.map (esc n false)).getD [] ++ (st.map (esc n false)).getD []
    | .ListComp elt gens _ _ => gens.flatMap (fun g => (match g.iter with
        | .Call _ args _ _ => args.flatMap (esc n true)
        | .Attribute a _ _ => esc n false a
        | it => esc n true it) ++ g.ifs.flatMap (esc n false)) ++ esc n true elt
    | .Call (.Name x _) args _ _ => if fzFn x then args.flatMap (esc n true) else args.flatMap (esc n false)
    | .Call _ args _ _ => args.flatMap (esc n false)
    | _ => []
def escIt (n : Nat) (it : Expr) : List Str := match it with
  | .Call (.Name x _) args _ _ => if x == ("zip" : Str) || x == ("enumerate" : Str) then args.flatMap (esc n true) else esc n true it
  | it => esc n true it
def fzOf (ce : Ce) (xs : List Str) (s : SE) : SE := match (xs.filterMap ce.ix).eraseDups with
  | [] => s
  | is => sFz is s
theorem es_fzOf {X : Cx} {st : Stmt} {ce : Ce} {xs : List Str} {s : SE} (h : ES X st s) : ES X st (fzOf ce xs s) := by
  unfold fzOf
  split
  · exact h
  · exact es_fz h
def sNever : SE := fun _ => none
theorem es_never {X : Cx} {st : Stmt} : ES X st sNever := ps_imp ps_never fun De σ H ⟨Sc, H0, t, out, j, hf, q⟩ => by cases hf
/-- how two or three stores are exchanged -/
def swNm (ko : Str → Option NameKind) (ts : List Expr) : List Str := ts.filterMap fun
    | .Name id pos => if ko id == some .local && pos.line == (ts.head?.map (·.pos.line)).getD 0 then some id else none
    | _ => none
def swR (ko : Str → Option NameKind) (ts vs : List Expr) : Option (Option (List Str)) :=
  if (!(ts.length == 2 || ts.length == 3) || vs.length != ts.length) = true then some none
  else if (vs.any fun | .Starred .. => true | _ => false) = true then some none
  else if ((swNm ko ts).length != ts.length || (swNm ko ts).eraseDups.length != (swNm ko ts).length) = true then some none
  else if vs.all (foldedForSure 8) = true then some none
  else if vs.all (constantsAlone 8) = true then none
  else some (some (swNm ko ts))
theorem swR_ok {env : Env} {ts vs : List Expr} {r : Option (List Str)} {k k2 : Nat} {p p2 : Pos} (hk : env.scope.kind = .function) (h : swR env.kindOf ts vs = some r) : swappedStores [.Tuple ts k p] (.Tuple vs k2 p2) env = pure r := by
  have hb : env.blockKind = .function := by unfold Env.blockKind; rw [hk]; rfl
  unfold swR at h
  unfold swappedStores
  show (if (!(ts.length == 2 || ts.length == 3) || vs.length != ts.length || env.blockKind != .function) = true then pure none else
    if (vs.any fun | .Starred .. => true | _ => false) = true then pure none else
    if ((swNm env.kindOf ts).length != ts.length || (swNm env.kindOf ts).eraseDups.length != (swNm env.kindOf ts).length) = true then pure none else
    if vs.all (foldedForSure 8) = true then pure none else
    if vs.all (constantsAlone 8) = true then (unsupported "assign.tuple-of-constant-expressions:order-of-the-stores" >>= fun _ => pure (some (swNm env.kindOf ts))) else pure (some (swNm env.kindOf ts))) = pure r
  rw [hb, show (ScopeKind.function != ScopeKind.function) = false from rfl, Bool.or_false]
  split at h
  · rename_i c; cases h; rw [if_pos c]
  · rename_i c
    rw [if_neg c]
    split at h
    · rename_i c2; cases h; rw [if_pos c2]
    · rename_i c2
      rw [if_neg c2]
      split at h
      · rename_i c3; cases h; rw [if_pos c3]
      · rename_i c3
        rw [if_neg c3]
        split at h
        · rename_i c4; cases h; rw [if_pos c4]
        · rename_i c4
          rw [if_neg c4]
          split at h
          · cases h
          · rename_i c5; cases h; rw [if_neg c5]
end Den

/-! Den12: statements. -/
namespace Den
open PySem L2
/-- a place: a slot and a path of written places -/
def cP (Γ : Gam) (ce : Ce) : Expr → Option (Nat × List Stp)
  | .Name x _ => if okName x ∧ ce.vis x then (ce.ix x).map fun i => (i, []) else none
  | .Subscript a (.Constant (.int j) _ _) _ => (cP Γ ce a).map fun q => (q.1, q.2 ++ [.ix j])
  | .Attribute a f _ => if isBase a then (cP Γ ce a).map fun q => (q.1, q.2 ++ [.fl f (clsOf Γ.cl f)]) else none
  | _ => none
/-- what is given to a name: a dict by the name -/
def cVn (Γ : Gam) (n : Nat) (ce : Ce) (y : Str) (e : Expr) : Option VE := match e with
  | .Dict [] [] _ => some (if tupName y then vDt else vDk)
  | e => cV Γ n ce e
def cVz (Γ : Gam) (n : Nat) (ce : Ce) : List Expr → List Expr → Option (List VE)
  | .Name y _ :: ts, e :: vs => if isPlain e then (cVn Γ n ce y e).bind fun f => (cVz Γ n ce ts vs).map (f :: ·) else none
  | [], [] => some []
  | _, _ => none
def isTup : Expr → Bool
  | .Tuple _ _ _ => true | _ => false
def allSlots (ce : Ce) : List Nat := List.range ce.N.length
/-- the comprehension's own names are others -/
def lcOff (y : Str) : Expr → Bool
  | .ListComp _ _ scope _ => !(scope.names.any fun (n, k) => n == y && (k == .local || k == .cell))
  | _ => false
mutual
noncomputable def cS (Γ : Gam) : Nat → Ce → Stmt → Option SE
  | 0, _, _ => none
  | n + 1, ce, st => match st with
    | .Assign [.Name y py] e _ => if ce.loc y ∧ (isLc e = false ∨ ce.lc y = false ∨ ((py.line == e.pos.line) = true ∧ lcOff y e = true)) then
        (ce.ix y).bind fun i => (cVn Γ n ce y e).map fun f => fzOf ce (esc 20 true e) (sAsg i f) else none
    | .Assign [.Tuple ts _ _] (.Tuple vs _ _) _ => (cNames ce ts).bind fun is => (cVz Γ n ce ts vs).bind fun fs => (swR (fun x => ce.sc.names.lookup x) ts vs).bind fun r => if is.length ≤ big ∧ is.Nodup then some (fzOf ce (vs.flatMap (esc 20 true)) (sPar is fs)) else none
    | .Assign [.Tuple ts _ _] e _ => if isTup e = false then (cNames ce ts).bind fun is => (cB Γ n ce e).map fun f => fzOf ce (esc 20 true e) (sUnp is f) else none
    | .Assign [.Subscript o j _] e _ => if isPlain j then (cP Γ ce o).bind fun q => (cB Γ n ce j).bind fun fj => (cV Γ n ce e).map fun f => fzOf ce (esc 20 true e) (sPut q.1 q.2 fj f) else none
    | .Expr (.Call (.Attribute (.IfExp c x y ipos) m apos) [a] [] cpos) _ => if (m == ("append" : Str)) = true ∧ isPlain a ∧ (apos.endLine == cpos.line) = true then (cT Γ n ce c).bind fun k => (cP Γ ce x).bind fun q => (cP Γ ce y).bind fun r => (cV Γ n ce a).map fun f => fzOf ce (esc 20 true a) (sIf k (sApp q.1 q.2 f) (sApp r.1 r.2 f)) else none
    | .Expr (.Call (.Attribute o m apos) [a] [] cpos) _ => if (m == ("append" : Str)) = true ∧ isPlain a ∧ (apos.endLine == cpos.line) = true then (cP Γ ce o).bind fun q => (cV Γ n ce a).map fun f => fzOf ce (esc 20 true a) (sApp q.1 q.2 f)
        else if (m == ("extend" : Str)) = true ∧ isPlain a ∧ (apos.endLine == cpos.line) = true then (cP Γ ce o).bind fun q => (cB Γ n ce a).map fun f => fzOf ce (esc 20 false a) (sExt q.1 q.2 f) else none
    | .Expr (.Call (.Attribute o m apos) [] [] cpos) _ => if (m == ("reverse" : Str)) = true ∧ (apos.endLine == cpos.line) = true then (cP Γ ce o).map fun q => sRev q.1 q.2
        else if (m == ("clear" : Str)) = true ∧ (apos.endLine == cpos.line) = true then (cP Γ ce o).map fun q => sClr q.1 q.2
        else if (m == ("pop" : Str)) = true ∧ (apos.endLine == cpos.line) = true then (cP Γ ce o).map fun q => sPop q.1 q.2 else none
    | .Expr (.Call (.Name x p) args [] cpos) _ => (cV Γ n ce (.Call (.Name x p) args [] cpos)).map fun f => fzOf ce (args.flatMap (esc 20 false)) (sDrop f)
    | .If c a b _ => (cT Γ n ce c).bind fun k => (cSs Γ n ce a).bind fun s => (cSs Γ n ce b).map fun u => fzOf ce (esc 20 false c) (sIf k s u)
    | .For tg it body [] _ => if isPlain it then (cW Γ n ce tg it).bind fun w => (cG ce (allSlots ce) tg).bind fun g => (cSs Γ n ce body).map fun s => fzOf ce (escIt 20 it) (sFor w g s) else none
    | .While c body [] _ => (cT Γ n ce c).bind fun k => (cSs Γ n ce body).map fun s => sWhile k s
    | .Return (some (.Name x p)) _ => if okName x ∧ ce.vis x then (ce.ix x).map sRetN else (cV Γ n ce (.Name x p)).map sRet
    | .Return (some e) _ => (cV Γ n ce e).map sRet
    | .Pass _ => some sNext
    | .Break _ => some sBreak
    | .Continue _ => some sCont
    | .Raise _ _ _ => some sNever
    | _ => none
noncomputable def cSs (Γ : Gam) : Nat → Ce → List Stmt → Option SE
  | 0, _, _ => none
  | n + 1, ce, sts => match sts with
    | [] => some sNext
    | st :: r => (cS Γ n ce st).bind fun s => (cSs Γ n ce r).map fun u => sSeq s u
end
section
variable {X : Cx} {Γ : Gam} {ce : Ce}
theorem cP_ok (C : Ctx X Γ ce) : ∀ {e : Expr} {q : Nat × List Stp}, cP Γ ce e = some q → PE X e (tPath X.mg q.1 q.2)
  | .Attribute a f p, q, h => by
    have h : (if isBase a then (cP Γ ce a).map fun q => (q.1, q.2 ++ [.fl f (clsOf Γ.cl f)]) else none) = some q := by unfold cP at h; exact h
    split at h
    · rename_i hb
      obtain ⟨q', h1, rfl⟩ := map_some h
      exact pp_fl (C.cls f) (cP_ok C h1) (base_ok hb)
    · cases h
  | .Name x p, q, h => by
    have h : (if okName x ∧ ce.vis x then (ce.ix x).map fun i => (i, []) else none) = some q := h
    by_cases hk : okName x = true ∧ ce.vis x = true
    · rw [if_pos hk] at h
      obtain ⟨i, h1, rfl⟩ := map_some h
      exact pp_var (pe_var (by rw [C.N]; exact ix_get h1) (C.vis hk.2) (okName_1 hk.1) (okName_2 hk.1))
    · rw [if_neg hk] at h; cases h
  | .Subscript a (.Constant (.int j) k p1) p, q, h => by
    have h : ((cP Γ ce a).map fun q => (q.1, q.2 ++ [.ix j])) = some q := by unfold cP at h; exact h
    obtain ⟨q', h1, rfl⟩ := map_some h
    exact pp_ix (cP_ok C h1) pe_int (plainIx rfl)
theorem cVn_ok (C : Ctx X Γ ce) {n : Nat} {y : Str} {e : Expr} {f : VE} (h : cVn Γ n ce y e = some f) : EV X e f := by
  unfold cVn at h
  split at h
  · cases h
    split
    · exact ev_dt
    · exact ev_dk
  · exact (snd Γ n).v C h
theorem cVz_ok (C : Ctx X Γ ce) {n : Nat} : ∀ {ts vs : List Expr} {fs : List VE}, cVz Γ n ce ts vs = some fs → PA X vs (tVs X.mg fs)
  | [], [], fs, h => by
    cases h
    exact pa_vs0
  | [], e :: vs, fs, h => by cases h
  | t :: ts, [], fs, h => by
    cases t <;> cases h
  | t :: ts, e :: vs, fs, h => by
    cases t with
    | Name y p =>
      have h : (if isPlain e then (cVn Γ n ce y e).bind fun f => (cVz Γ n ce ts vs).map (f :: ·) else none) = some fs := h
      split at h
      · rename_i hp
        obtain ⟨f, h1, h⟩ := bind_some h
        obtain ⟨fs', h2, rfl⟩ := map_some h
        exact pa_vs1 (cVn_ok C h1) (cVz_ok C h2) (star1 hp)
      · cases h
    | _ => cases h
theorem noLc {e : Expr} {tg : Option Expr} {l : Nat} {env : Env} (h : isLc e = false) : swapsWith e tg l env = pure false := by
  cases e <;> first | rfl | cases h
theorem notName {e : Expr} {tg : Expr} {l : Nat} {env : Env} (h : ∀ x p, tg ≠ .Name x p) : swapsWith e (some tg) l env = pure false := by
  unfold swapsWith
  cases e <;> first
    | rfl
    | (cases tg <;> first | rfl | exact absurd rfl (h _ _))
theorem cellNo {e : Expr} {y : Str} {py : Pos} {l : Nat} {env : Env} (h : (env.kindOf y == some .local) = false) : swapsWith e (some (.Name y py)) l env = pure false := by
  have go : ∀ (sc : Scope), (env.blockKind == .function && env.kindOf y == some .local && py.line == e.pos.line && !(sc.names.any fun (n, k) => n == y && (k == .local || k == .cell))) = false := fun sc => by
    rw [h]
    simp
  unfold swapsWith
  cases e <;> first
    | rfl
    | (show pure (env.blockKind == .function && env.kindOf y == some .local && py.line == _ && !(Scope.names _ |>.any fun (n, k) => n == y && (k == .local || k == .cell))) = pure false
       rw [h]; simp)
structure Sns (Γ : Gam) (n : Nat) : Prop where
  s : ∀ {X : Cx} {ce : Ce} {st : Stmt} {f : SE}, Ctx X Γ ce → ce.sc.kind = .function → cS Γ n ce st = some f → ES X st f
  ss : ∀ {X : Cx} {ce : Ce} {sts : List Stmt} {f : SE}, Ctx X Γ ce → ce.sc.kind = .function → cSs Γ n ce sts = some f → ESs X sts f
theorem sns_ss {n : Nat} (S : Sns Γ n) {sts : List Stmt} {f : SE} (C : Ctx X Γ ce) (hk : ce.sc.kind = .function) (h : cSs Γ (n + 1) ce sts = some f) : ESs X sts f := by
  match sts, h with
  | [], h => cases h; exact ess_nil
  | st :: r, h =>
    have h : ((cS Γ n ce st).bind fun s => (cSs Γ n ce r).map fun u => sSeq s u) = some f := h
    obtain ⟨s, h1, h⟩ := bind_some h
    obtain ⟨u, h2, rfl⟩ := map_some h
    exact ess_cons (S.s C hk h1) (S.ss C hk h2)
theorem sns_name {n : Nat} {y : Str} {py p : Pos} {e : Expr} {f : SE} (C : Ctx X Γ ce) (hk : ce.sc.kind = .function) (h : cS Γ (n + 1) ce (.Assign [.Name y py] e p) = some f) : ES X (.Assign [.Name y py] e p) f := by
  unfold cS at h
  dsimp only at h
  split at h
  · rename_i hc
    obtain ⟨i, h1, h⟩ := bind_some h
    obtain ⟨g, h2, rfl⟩ := map_some h
    obtain ⟨l1, l2⟩ := C.loc hc.1
    have hi : X.N[i]? = some y := by rw [C.N]; exact ix_get h1
    refine es_fzOf (es_asg ?_)
    rcases hc.2 with hc | hc | hc
    · exact ps_set C.nd hi l1 (cVn_ok C h2) (noLc hc) l2
    · refine ps_set C.nd hi l1 (cVn_ok C h2) (cellNo ?_) l2
      unfold Env.kindOf
      rw [C.sc]
      unfold Ce.lc at hc
      split at hc
      · cases hc
      · rename_i hn
        cases q : ce.sc.names.lookup y with
        | none => rfl
        | some k =>
          cases k with
          | «local» => exact absurd q hn
          | _ => rfl
    · by_cases hlc : ce.lc y = true
      · match e, hc, h2 with
        | .ListComp elt gens scope pos, hc, h2 =>
          have h2 : cV Γ n ce (.ListComp elt gens scope pos) = some g := h2
          cases n with
          | zero => unfold cV at h2; cases h2
          | succ n =>
            match gens, h2 with
            | [⟨tg, iter, ifs, as⟩], h2 =>
              obtain ⟨w, g', c, x, rfl, rfl, hw, ok, hg, ht, he, hs⟩ := snd_lc (snd Γ n) C h2
              have hy : X.env.scope.names.lookup y = some .local := by
                rw [C.sc]
                unfold Ce.lc at hlc
                split at hlc
                · rename_i q; exact q
                · cases hlc
              have q := ps_setLc (pos := pos) (spos := p) (py := py) C.calm C.nd hi hy (sw_true (by rw [C.sc]; exact hk) hy hc.1 (by simpa [lcOff] using hc.2)) hw ok hg ht he hs
              exact ps_imp q fun De σ H z => lc_go z
            | [], h2 => unfold cV at h2; cases h2
            | ⟨tg1, it1, if1, as1⟩ :: g2 :: gr, h2 =>
              rw [show cV Γ (n + 1) ce (.ListComp elt (⟨tg1, it1, if1, as1⟩ :: g2 :: gr) scope pos) = none from rfl] at h2
              cases h2
      · refine ps_set C.nd hi l1 (cVn_ok C h2) (cellNo ?_) l2
        unfold Env.kindOf
        rw [C.sc]
        unfold Ce.lc at hlc
        split at hlc
        · exact absurd rfl hlc
        · rename_i hn
          cases q : ce.sc.names.lookup y with
          | none => rfl
          | some k =>
            cases k with
            | «local» => exact absurd q hn
            | _ => rfl
  · cases h
theorem kindEq (C : Ctx X Γ ce) : X.env.kindOf = fun x => ce.sc.names.lookup x := by
  funext x
  unfold Env.kindOf
  rw [C.sc]
theorem assignIx {o j : Expr} {p : Pos} {env : Env} (h : isPlain j = true) : ∀ v, assign (.Subscript o j p) env v = (do
      let ov ← holding [v] (eval o env)
      let iv ← holding [v, ov] (eval j env)
      standAt p
      holding [v, ov, iv] (setItem ov iv v)
      release [v, ov, iv] []) := by
  intro v
  cases j <;> first | rfl | cases h
theorem baseP {Γ : Gam} {ce : Ce} {o : Expr} {q : Nat × List Stp} {m : Str} {env : Env} (h : cP Γ ce o = some q) : attributeBase o m env (eval o env) = eval o env := by
  unfold cP at h
  split at h
  · rfl
  · rfl
  · rfl
  · cases h
theorem cNames_cons {t : Expr} {r : List Expr} {is : List Nat} (h : cNames ce (t :: r) = some is) : ∃ x p i is', t = .Name x p ∧ ce.loc x = true ∧ ce.ix x = some i ∧ cNames ce r = some is' ∧ is = i :: is' := by
  cases t with
  | Name x p =>
    have h : (if ce.loc x then (ce.ix x).bind fun i => (cNames ce r).map (i :: ·) else none) = some is := h
    by_cases hl : ce.loc x = true
    · rw [if_pos hl] at h
      obtain ⟨i, h1, h⟩ := bind_some h
      obtain ⟨is', h2, h3⟩ := map_some h
      exact ⟨x, p, i, is', rfl, hl, h1, h2, h3.symm⟩
    · rw [if_neg hl] at h; cases h
  | _ => cases h
theorem cNames_nil {is : List Nat} (h : cNames ce [] = some is) : is = [] := (Option.some.inj h).symm
theorem swNm_in {ko : Str → Option NameKind} {l : Nat} : ∀ {ts : List Expr}, (∀ t ∈ ts, ∃ x p, t = .Name x p) → (ts.filterMap fun
    | .Name id pos => if ko id == some .local && pos.line == l then some id else none
    | _ => none).length = ts.length → (ts.filterMap fun
    | .Name id pos => if ko id == some .local && pos.line == l then some id else none
    | _ => none) = ts.map (fun | .Name x _ => x | _ => "") ∧ ∀ x p, Expr.Name x p ∈ ts → ko x = some .local
  | [], _, _ => ⟨rfl, fun x p z => nomatch z⟩
  | t :: r, hn, hl => by
    obtain ⟨x, p, rfl⟩ := hn t List.mem_cons_self
    have hle := List.length_filterMap_le (fun
      | .Name id pos => if ko id == some .local && pos.line == l then some id else none
      | _ => none) r
    by_cases hc : (ko x == some .local && p.line == l) = true
    · rw [List.filterMap_cons_some (b := x) (by simp only [hc, if_true])] at hl ⊢
      obtain ⟨q1, q2⟩ := swNm_in (ko := ko) (l := l) (ts := r) (fun t ht => hn t (List.mem_cons_of_mem _ ht)) (by simpa using hl)
      refine ⟨by rw [q1]; rfl, fun y p' hy => ?_⟩
      rcases List.mem_cons.mp hy with z | z
      · cases z
        rw [Bool.and_eq_true] at hc
        exact beq_iff_eq.mp hc.1
      · exact q2 y p' z
    · rw [List.filterMap_cons_none (by simp only [hc, Bool.false_eq_true, if_false])] at hl
      rw [List.length_cons] at hl
      omega
theorem swR_some {ko : Str → Option NameKind} {ts vs : List Expr} {names : List Str} (h : swR ko ts vs = some (some names)) : (ts.length = 2 ∨ ts.length = 3) ∧ vs.length = ts.length ∧ names = swNm ko ts ∧ (swNm ko ts).length = ts.length := by
  unfold swR at h
  split at h
  · cases h
  · rename_i c
    split at h
    · cases h
    · split at h
      · cases h
      · rename_i c3
        split at h
        · cases h
        · split at h
          · cases h
          · cases h
            simp only [Bool.or_eq_true, bne_iff_ne, not_or, Decidable.not_not] at c c3
            refine ⟨?_, c.2, rfl, c3.1⟩
            have c1 := c.1
            simp only [Bool.not_eq_true', Bool.not_eq_false, Bool.or_eq_true, beq_iff_eq] at c1
            exact c1
theorem len2 {α : Type} {l : List α} (h : l.length = 2) : ∃ a b, l = [a, b] := match l, h with | [a, b], _ => ⟨a, b, rfl⟩
theorem len3 {α : Type} {l : List α} (h : l.length = 3) : ∃ a b c, l = [a, b, c] := match l, h with | [a, b, c], _ => ⟨a, b, c, rfl⟩
theorem sns_par {n : Nat} {ts vs : List Expr} {k1 k2 : Nat} {p1 p2 p : Pos} {is : List Nat} {fs : List VE} {r : Option (List Str)} (C : Ctx X Γ ce) (hk : ce.sc.kind = .function) (h1 : cNames ce ts = some is) (h2 : cVz Γ n ce ts vs = some fs)
    (h3 : swR (fun x => ce.sc.names.lookup x) ts vs = some r) (hc : is.length ≤ big ∧ is.Nodup) : ES X (.Assign [.Tuple ts k1 p1] (.Tuple vs k2 p2) p) (sPar is fs) := by
  have E := snd Γ n
  have hs : swapsWithSole [.Tuple ts k1 p1] (.Tuple vs k2 p2) p.line X.env = pure false := rfl
  have hkx : X.env.scope.kind = .function := by rw [C.sc]; exact hk
  have hw := swR_ok (k := k1) (p := p1) (k2 := k2) (p2 := p2) hkx (by rw [kindEq C]; exact h3)
  obtain ⟨q1, q2, q3, q4⟩ := pgs_names C h1
  cases r with
  | none => exact es_parN hc.1 (ps_asg (pe_tup (cVz_ok C h2)) (pg_tup C.calm q1 q2 q3) hs hw rfl)
  | some names =>
    obtain ⟨l1, l2, rfl, l4⟩ := swR_some h3
    have allN : ∀ {ts : List Expr} {is : List Nat}, cNames ce ts = some is → ∀ t ∈ ts, ∃ x p, t = .Name x p := by
      intro ts
      induction ts with
      | nil => exact fun _ t ht => nomatch ht
      | cons a r ih =>
        intro is h t ht
        obtain ⟨x, p, i, is', rfl, _, _, h4, _⟩ := cNames_cons h
        rcases List.mem_cons.mp ht with z | z
        · exact ⟨x, p, z⟩
        · exact ih h4 t z
    obtain ⟨n1, n2⟩ := swNm_in (ko := fun x => ce.sc.names.lookup x) (allN h1) l4
    have hsw : swNm (fun x => ce.sc.names.lookup x) ts = ts.map (fun | .Name x _ => x | _ => "") := n1
    rw [hsw] at hw
    rcases l1 with l1 | l1
    · obtain ⟨ta, tb, rfl⟩ := len2 l1
      obtain ⟨va, vb, rfl⟩ := len2 (l2.trans l1)
      · obtain ⟨x, px, i, is', rfl, hlx, ix, h4, rfl⟩ := cNames_cons h1
        obtain ⟨y, py, j, is2, rfl, hly, iy, h5, rfl⟩ := cNames_cons h4
        cases cNames_nil h5
        refine es_par2 (ps_par C.calm C.nd (by rw [C.N]; exact ix_get ix) (by rw [C.N]; exact ix_get iy) (fun z => ?_) (by rw [C.sc]; exact n2 x px (by simp)) (by rw [C.sc]; exact n2 y py (by simp)) (cVz_ok C h2) hw hs)
        have := hc.2
        rw [z] at this
        simp at this
    · obtain ⟨ta, tb, tc, rfl⟩ := len3 l1
      obtain ⟨va, vb, vc, rfl⟩ := len3 (l2.trans l1)
      · obtain ⟨x, px, i, is', rfl, hlx, ix, h4, rfl⟩ := cNames_cons h1
        obtain ⟨y, py, j, is2, rfl, hly, iy, h5, rfl⟩ := cNames_cons h4
        obtain ⟨z, pz, l, is3, rfl, hlz, iz, h6, rfl⟩ := cNames_cons h5
        cases cNames_nil h6
        have nd := hc.2
        simp only [List.nodup_cons, List.mem_cons, List.not_mem_nil, or_false, not_or, List.nodup_nil, and_true] at nd
        exact es_par3 (ps_par3 C.calm C.nd (by rw [C.N]; exact ix_get ix) (by rw [C.N]; exact ix_get iy) (by rw [C.N]; exact ix_get iz) nd.1.1 nd.1.2 nd.2.1 (by rw [C.sc]; exact n2 x px (by simp)) (by rw [C.sc]; exact n2 y py (by simp)) (by rw [C.sc]; exact n2 z pz (by simp)) (cVz_ok C h2) hw hs)
theorem sns_s {n : Nat} (S : Sns Γ n) {st : Stmt} {f : SE} (C : Ctx X Γ ce) (hk : ce.sc.kind = .function) (h : cS Γ (n + 1) ce st = some f) : ES X st f := by
  have h0 := h
  have E := snd Γ n
  unfold cS at h
  split at h
  · exact sns_name C hk h0
  · rename_i ts k1 p1 vs k2 p2 p
    obtain ⟨is, h1, h⟩ := bind_some h
    obtain ⟨fs, h2, h⟩ := bind_some h
    obtain ⟨r, h3, h⟩ := bind_some h
    obtain ⟨hc, rfl⟩ := ite_some h
    exact es_fzOf (sns_par C hk h1 h2 h3 hc)
  · rename_i ts k1 p1 e p hne
    split at h
    · rename_i ht
      obtain ⟨is, h1, h⟩ := bind_some h
      obtain ⟨g, h2, rfl⟩ := map_some h
      obtain ⟨q1, q2, q3, q4⟩ := pgs_names C h1
      refine es_fzOf (es_unp (te := tBr X.mg g) (ps_asg (E.b C h2) (pg_tup C.calm q1 q2 q3) ?_ ?_ rfl))
      · show swapsWith e (some (.Tuple ts k1 p1)) p.line X.env = pure false
        exact notName (fun x p z => by cases z)
      · cases e <;> first | rfl | cases ht
    · cases h
  · rename_i o j p1 e p
    split at h
    · rename_i hj
      obtain ⟨q, h1, h⟩ := bind_some h
      obtain ⟨fj, h2, h⟩ := bind_some h
      obtain ⟨g, h3, rfl⟩ := map_some h
      refine es_fzOf (es_put (ps_asg (E.v C h3) (pg_sub (cP_ok C h1) (E.b C h2) set_list (assignIx hj)) (show swapsWith e (some (.Subscript o j p1)) p.line X.env = pure false from notName fun x p z => by cases z) ?_ rfl)
        (ps_asg (E.v C h3) (pg_sub (cP_ok C h1) (E.b C h2) (set_dict (by have := C.units; omega)) (assignIx hj)) (show swapsWith e (some (.Subscript o j p1)) p.line X.env = pure false from notName fun x p z => by cases z) ?_ rfl))
      · cases e <;> rfl
      · cases e <;> rfl
    · cases h
  · rename_i c x y ipos m apos a cpos p
    split at h
    · rename_i hc
      obtain ⟨k, h1, h⟩ := bind_some h
      obtain ⟨q, h2, h⟩ := bind_some h
      obtain ⟨r, h3, h⟩ := bind_some h
      obtain ⟨g, h4, rfl⟩ := map_some h
      have em := beq_iff_eq.mp hc.1
      subst em
      have pe := pe_ifExp (pos := ipos) (E.t C h1) (cP_ok C h2) (cP_ok C h3)
      refine es_fzOf (ps_imp (ps_expr (pe_bm PySem.F.plainAttrs_list PySem.F.slot_list_append PySem.F.type_list_append mt_append pe (pa_cons (E.v C h4) pa_nil (star1 hc.2.1)) rfl (by rw [star1 hc.2.1]; rfl) hc.2.2 (star1 hc.2.1) rfl) rfl) fun De σ H ⟨Sc, H0, t, out, j, hf, q⟩ => ?_)
      obtain ⟨b, g1, hf⟩ := bind_some hf
      refine at_t j g1 fun H' e j' => ?_
      cases b with
      | true => exact app_go ⟨Sc, H0, t, out, j', hf, q⟩
      | false => exact app_go ⟨Sc, H0, t, out, j', hf, q⟩
    · cases h
  · rename_i o m apos a cpos p _
    split at h
    · rename_i hc
      obtain ⟨q, h1, h⟩ := bind_some h
      obtain ⟨g, h2, rfl⟩ := map_some h
      have em := beq_iff_eq.mp hc.1
      subst em
      refine es_fzOf (es_app (ps_expr (pe_bm PySem.F.plainAttrs_list PySem.F.slot_list_append PySem.F.type_list_append mt_append (cP_ok C h1) (pa_cons (E.v C h2) pa_nil (star1 hc.2.1)) (baseP h1) ?_ hc.2.2 (star1 hc.2.1) rfl) rfl))
      rw [star1 hc.2.1]
      rfl
    · split at h
      · rename_i hc
        obtain ⟨q, h1, h⟩ := bind_some h
        obtain ⟨g, h2, rfl⟩ := map_some h
        have em := beq_iff_eq.mp hc.1
        subst em
        refine es_fzOf (es_ext (ps_expr (pe_bm PySem.F.plainAttrs_list PySem.F.slot_list_extend PySem.F.type_list_extend mt_extend (cP_ok C h1) (pa_cons (E.b C h2) pa_nil (star1 hc.2.1)) (baseP h1) ?_ hc.2.2 (star1 hc.2.1) rfl) rfl))
        rw [star1 hc.2.1]
        rfl
      · cases h
  · split at h
    · rename_i hc
      obtain ⟨q, h1, rfl⟩ := map_some h
      have em := beq_iff_eq.mp hc.1
      subst em
      exact es_rev (ps_expr (pe_bm0 PySem.F.plainAttrs_list PySem.F.slot_list_reverse PySem.F.type_list_reverse mt_reverse (cP_ok C h1) (baseP h1) hc.2) rfl)
    · split at h
      · rename_i hc
        obtain ⟨q, h1, rfl⟩ := map_some h
        have em := beq_iff_eq.mp hc.1
        subst em
        exact es_clr (ps_expr (pe_bm0 PySem.F.plainAttrs_list PySem.F.slot_list_clear PySem.F.type_list_clear mt_clear (cP_ok C h1) (baseP h1) hc.2) rfl)
      · split at h
        · rename_i hc
          obtain ⟨q, h1, rfl⟩ := map_some h
          have em := beq_iff_eq.mp hc.1
          subst em
          exact es_pop (ps_expr (pe_bm0 PySem.F.plainAttrs_list PySem.F.slot_list_pop PySem.F.type_list_pop mt_pop (cP_ok C h1) (baseP h1) hc.2) rfl)
        · cases h
  · obtain ⟨g, h1, rfl⟩ := map_some h
    exact es_fzOf (es_drop (ps_expr (E.v C h1) rfl))
  · obtain ⟨k, h1, h⟩ := bind_some h
    obtain ⟨s, h2, h⟩ := bind_some h
    obtain ⟨u, h3, rfl⟩ := map_some h
    exact es_fzOf (es_if (E.t C h1) (S.ss C hk h2) (S.ss C hk h3))
  · split at h
    · rename_i hp
      obtain ⟨w, h1, h⟩ := bind_some h
      obtain ⟨g, h2, h⟩ := bind_some h
      obtain ⟨s, h3, rfl⟩ := map_some h
      exact es_fzOf (es_for C.xe C.calm (E.w C h1) (cG_ok C h2) (S.ss C hk h3) (foldS hp))
    · cases h
  · rename_i c body p
    obtain ⟨k, h1, h⟩ := bind_some h
    obtain ⟨s, h2, rfl⟩ := map_some h
    exact es_while (body := body) (ps_while (by rw [C.xe]; exact PassesOwn.never) (E.t C h1) (S.ss C hk h2))
  · split at h
    · rename_i hc
      obtain ⟨i, h1, rfl⟩ := map_some h
      exact es_retN (pe_var (by rw [C.N]; exact ix_get h1) (C.vis hc.2) (okName_1 hc.1) (okName_2 hc.1))
    · obtain ⟨g, h1, rfl⟩ := map_some h
      exact es_ret (E.v C h1)
  · obtain ⟨g, h1, rfl⟩ := map_some h
    exact es_ret (E.v C h1)
  · cases h; exact es_pass
  · cases h; exact es_break
  · cases h; exact es_cont
  · cases h; exact es_never
  · cases h
theorem sns (Γ : Gam) : ∀ n, Sns Γ n
  | 0 => {
      s := fun _ _ h => by unfold cS at h; cases h
      ss := fun _ _ h => by unfold cSs at h; cases h }
  | n + 1 => have S := sns Γ n
    ⟨fun C hk h => sns_s S C hk h, fun C hk h => sns_ss S C hk h⟩
end
end Den

/-! Den13: defs. -/
namespace Den
open PySem L2
def fnScB (N ps : List Str) (sc : Scope) : Bool :=
  (match sc.kind with | .function => true | _ => false) && !sc.isCoroutine && !sc.isGenerator && decide N.Nodup && decide (N.take ps.length = ps) &&
    (ps.all fun x => match sc.names.lookup x with | some .local => true | some .cell => true | _ => false) && (sc.names.all fun y => match y.2 with | .free => false | _ => true)
theorem fnScB_ok {N ps : List Str} {sc : Scope} (h : fnScB N ps sc = true) : FnScope N ps sc := by
  unfold fnScB at h
  simp only [Bool.and_eq_true, List.all_eq_true, decide_eq_true_eq, Bool.not_eq_true'] at h
  obtain ⟨⟨⟨⟨⟨⟨h1, h2⟩, h3⟩, h4⟩, h5⟩, h6⟩, h7⟩ := h
  refine ⟨?_, h2, h3, h4, h5, fun x hx => ?_, fun y hy e => ?_⟩
  · split at h1
    · rename_i e; exact e
    · cases h1
  · have q := h6 x hx
    split at q
    · rename_i e; exact .inl e
    · rename_i e; exact .inr e
    · cases q
  · have q := h7 y hy
    rw [e] at q
    cases q
/-- a def's promise, or a class's, as a table of names wants it -/
def Good (P : Program) (w : World) (K : PySem.W.Frag) (mg : Str → Option Value) (base : Heap) (k : Nat) (x : Str) (n : Nat) (F : Fn) : Prop :=
  (∃ (f : Addr) (fd : FuncData) (ps : List Str), FnOk P w K mg base CX0 k f fd ps (spD mg n F) ∧ mg x = some (.ref f) ∧ PySem.W.keepIn K (.ref f) = true ∧ Binds K fd ps []) ∨
  (∃ (C f : Addr) (fd : FuncData) (ps : List Str) (j : Nat), j + 1 ≤ k ∧ Mk K C f ∧ FnOk P w K mg base CX0 j f fd ps (spI mg x n F) ∧ mg x = some (.ref C) ∧ Binds K fd ps [])
theorem Good.mono {P : Program} {w : World} {K : PySem.W.Frag} {mg : Str → Option Value} {base : Heap} {j k : Nat} {x : Str} {n : Nat} {F : Fn} (g : Good P w K mg base j x n F) (h : j ≤ k) : Good P w K mg base k x n F := by
  rcases g with ⟨f, fd, ps, g1, g2⟩ | ⟨C, f, fd, ps, i, hi, g⟩
  · exact .inl ⟨f, fd, ps, g1.mono h, g2⟩
  · exact .inr ⟨C, f, fd, ps, i, by omega, g⟩
theorem Good.cal {P : Program} {w : World} {K : PySem.W.Frag} {mg : Str → Option Value} {base : Heap} {k : Nat} {x : Str} {n : Nat} {F : Fn} (g : Good P w K mg base k x n F) {A : Around} (hr : Room k A) : Cal P w K mg base A x n F := by
  rcases g with ⟨f, fd, ps, g1, g2, g3, g4⟩ | ⟨C, f, fd, ps, i, hi, M, g1, g2, g3⟩
  · exact .inl ⟨f, fd, ps, k, g1, hr, g2, g3, g4⟩
  · exact .inr ⟨C, f, fd, ps, i, M, g1, hr.mono hi, g2, g3⟩
/-- a class's method -/
def GoodM (P : Program) (w : World) (K : PySem.W.Frag) (mg : Str → Option Value) (base : Heap) (k : Nat) (m c : Str) (n : Nat) (F : Fn) : Prop :=
  ∃ (Ca f : Addr) (fd : FuncData) (ps : List Str), mg c = some (.ref Ca) ∧ Cls K Ca ∧ Meth K Ca m f ∧ FnOk P w K mg base CX0 k f fd ps (spD mg n F) ∧ Binds K fd ps []
theorem GoodM.mono {P : Program} {w : World} {K : PySem.W.Frag} {mg : Str → Option Value} {base : Heap} {j k : Nat} {m c : Str} {n : Nat} {F : Fn} (g : GoodM P w K mg base j m c n F) (h : j ≤ k) : GoodM P w K mg base k m c n F := by
  obtain ⟨Ca, f, fd, ps, g1, g2, g3, g4, g5⟩ := g
  exact ⟨Ca, f, fd, ps, g1, g2, g3, g4.mono h, g5⟩
theorem GoodM.met {P : Program} {w : World} {K : PySem.W.Frag} {mg : Str → Option Value} {base : Heap} {k : Nat} {m c : Str} {n : Nat} {F : Fn} (g : GoodM P w K mg base k m c n F) {A : Around} (hr : Room k A) : Met P w K mg base A m c n F := by
  obtain ⟨Ca, f, fd, ps, g1, g2, g3, g4, g5⟩ := g
  exact ⟨Ca, f, fd, ps, k, g1, g2, g3, g4, hr, g5⟩
/-- what stands behind the top -/
structure Glob (P : Program) (w : World) (K : PySem.W.Frag) (mg : Str → Option Value) (base : Heap) (k : Nat) (Γ : Gam) : Prop where
  blt : ∀ x ∈ bltNames, mg x = none
  fns : ∀ x n mv F, Γ.fn.lookup x = some (n, mv, F) → Good P w K mg base k x n F
  con : ∀ x v, Γ.con.lookup x = some v → ∃ u, mg x = some u ∧ RelV v u
  cls : ∀ f c, (clsOf Γ.cl f).contains c = true → ∀ Ca, mg c = some (.ref Ca) → Cls K Ca ∧ NoAttr K Ca f
  mts : ∀ m tb, Γ.mt.lookup m = some tb → ∀ c n F, tb.lookup c = some (n, F) → GoodM P w K mg base k m c n F
  isi : ∀ y tb, Γ.isi.lookup y = some tb → ∃ Ca, mg y = some (.ref Ca) ∧ ∀ c b, tb.lookup c = some b → ∀ Ci, mg c = some (.ref Ci) → IsIt K Ci Ca b
theorem RepSl.nones {mg : Str → Option Value} {S : Addr → Prop} {H : Hp} : ∀ n : Nat, RepSl mg S H (List.replicate n none) (List.replicate n none) []
  | 0 => ⟨rfl, rfl⟩
  | n + 1 => by
    rw [List.replicate_succ, List.replicate_succ]
    exact ⟨none, _, rfl, RepSl.nones n⟩
theorem RepSl.start {mg : Str → Option Value} {S : Addr → Prop} {H : Hp} {n : Nat} : ∀ {os : List O} {vs : List V} {as : List Addr}, RepOs mg S H os vs as → RepSl mg S H (os.map some ++ List.replicate n none) (vs.map some ++ List.replicate n none) as
  | [], vs, as, h => by
    obtain ⟨rfl, rfl⟩ := h
    exact RepSl.nones n
  | x :: xs, vs, as, h => by
    obtain ⟨v, r, bs, cs, rfl, rfl, h3, h4⟩ := h
    exact ⟨v, _, bs, cs, rfl, rfl, h3, RepSl.start h4⟩
section
variable {P : Program} {w : World} {K : PySem.W.Frag} {mg : Str → Option Value} {base : Heap}
/-- THE RULE: a def is worth what the program reads off its text -/
theorem def_ok {x qual : Str} {st : Stmt} {f : Addr} {fd : FuncData} {N ps : List Str} {k n : Nat} {Γ : Gam} {b : SE} (F : Fun K x qual st f fd) (hS : fnScB N ps (defScope st) = true) (hc : cSs Γ n ⟨N, defScope st, fun _ => true⟩ (defBody st) = some b) (G : Glob P w K mg base k Γ) :
    FnOk P w K mg base CX0 (k + 1) f fd ps (spD mg ps.length (fnOf ps.length N.length b)) := by
  have S := fnScB_ok hS
  refine F.ok S (fun vs H Q E h => ?_) fun cdv A outer s H vs Q E hr h => ?_
  · obtain ⟨S, os, as, o, r, _, _, _, hl, _⟩ := h
    rw [r.length, hl]
  · obtain ⟨Sc, os, as, o, r, nd, na, hs, hl, hF, q⟩ := h
    have C : Ctx (cxOf CX0 P w K mg base N qual (defScope st) f cdv A outer s H E).nox Γ ⟨N, defScope st, fun _ => true⟩ := {
      calm := rfl
      nd := S.nd
      units := hr.units
      units2 := Nat.lt_of_le_of_lt (Nat.add_le_add_left (show 65 ≤ 16 * k + 200 by omega) _) (by have z := hr.un; rw [Nat.add_assoc] at z; exact z)
      xe := rfl
      blt := G.blt
      fns := fun y a mv F' hy => (G.fns y a mv F' hy).cal hr
      con := G.con
      cls := G.cls
      mts := fun m tb h1 c a F' h2 => (G.mts m tb h1 c a F' h2).met hr
      isi := G.isi
      N := rfl
      sc := rfl
      fb := fun _ _ => rfl }
    refine ⟨_, (sns Γ n).ss C S.kind hc, ?_⟩
    unfold fnOf at hF
    rw [if_pos hl] at hF
    obtain ⟨out, h1, hF⟩ := bind_some hF
    have e0 : Same (shut H as) H := fun b o z => by
      unfold shut at z
      split at z
      · cases z
      · exact z
    have eq : L2.start N vs = vs.map some ++ List.replicate (N.length - ps.length) none := by
      unfold L2.start
      rw [r.length, hl]
    have j : J mg Sc (shut H as) (os.map some ++ List.replicate (N.length - ps.length) none) (L2.start N vs) H := by
      rw [eq]
      refine ⟨as, RepSl.start r, nd, fun a ha => by unfold shut; rw [if_pos ha], e0, fun a z n => ?_⟩
      unfold shut at n
      rw [if_neg fun h => na a h z] at n
      exact hs a z n
    have kp : ∀ {H' : Hp}, Same (shut H as) H' → ∀ a u, a ∉ as → H a = some u → H' a = some u := fun {H'} e a u na h => e a u (by
      unfold shut
      rw [if_neg na]
      exact h)
    refine ⟨Sc, shut H as, _, out, j, h1, ?_⟩
    cases out with
    | rt o' =>
      cases hF
      refine fun v H' bs e ro nd' fr => q v H' bs (kp e) ro nd' fun b hb => ?_
      have z := fr b hb
      unfold shut at z
      split at z
      · rename_i h; exact .inl h
      · exact .inr z
    | nx t' =>
      cases hF
      refine fun σ' H' j' => ?_
      obtain ⟨A', _, _, _, e, _⟩ := j'
      exact q .non H' [] (kp e) ⟨rfl, rfl⟩ List.nodup_nil (fun _ z => nomatch z)
    | bk t' => cases hF
    | ct t' => cases hF
end
end Den

/-! Den14: the law's own def; what the top has left. -/
namespace Den
open PySem L2
/-- the law's body: its first row cuts the script -/
noncomputable def cLaw (Γ : Gam) (n : Nat) (ce : Ce) (p : Str) : List Stmt → Option SE
  | .Assign [.Name x _] (.Subscript (.Name y _) (.Slice none (some (.Constant (.int k) _ _)) none _) _) _ :: rest => if x = p ∧ y = p ∧ k = 63 ∧ okName p ∧ ce.vis p ∧ ce.loc p ∧ ce.ix p = some 0 then cSs Γ n ce rest else none
  | _ => none
def spLaw (K : PySem.W.Frag) : Sp := fun vs H Q _ => ∃ (a : Addr) (ns : List Int), vs = [.ref a] ∧ SqL K H a (ns.map V.int) ∧ ns.length ≤ 63 ∧ ∀ H', Q (.bl true) H'
theorem cut63 {ns : List Int} (h : ns.length ≤ 63) : cutV (ns.map V.int) none (some 63) = ns.map V.int := by
  unfold cutV
  have e : HT.sIx (ns.map V.int).length (ns.map V.int).length (some 63) = min 63 (ns.map V.int).length := HT.sIx_nat _ _ 63
  rw [e, HT.sIx_none, List.drop_zero]
  apply List.take_of_length_le
  rw [List.length_map]
  omega
theorem rep_ints {mg : Str → Option Value} {S : Addr → Prop} {H : Hp} : ∀ ns : List Int, Reps mg S H (ns.map D.int) (ns.map V.int)
  | [] => rfl
  | n :: r => ⟨.int n, _, rfl, rfl, rep_ints r⟩
theorem ints_map (ns : List Int) : (ns.map D.int).map O.val = ns.map O.int := by
  rw [List.map_map]
  rfl
section
variable {P : Program} {w : World} {K : PySem.W.Frag} {mg : Str → Option Value} {base : Heap}
theorem law_ok {x qual : Str} {st : Stmt} {f : Addr} {fd : FuncData} {N : List Str} {p : Str} {k n : Nat} {Γ : Gam} {b : SE} (F : Fun K x qual st f fd) (hS : fnScB N [p] (defScope st) = true) (hc : cLaw Γ n ⟨N, defScope st, fun _ => true⟩ p (defBody st) = some b) (G : Glob P w K mg base k Γ)
    (hb : ∀ ns : List Int, ns.length ≤ 63 → b (some (O.val (D.ints ns)) :: List.replicate (N.length - 1) none) = some (.rt (.bl true))) : FnOk P w K mg base CX0 (k + 1) f fd [p] (spLaw K) := by
  have S := fnScB_ok hS
  refine F.ok S (fun vs H Q E h => ?_) fun cdv A outer s H vs Q E hr h => ?_
  · obtain ⟨a, ns, rfl, _⟩ := h
    rfl
  · obtain ⟨a, ns, rfl, hA, hl, q⟩ := h
    have C : Ctx (cxOf CX0 P w K mg base N qual (defScope st) f cdv A outer s H E).nox Γ ⟨N, defScope st, fun _ => true⟩ := {
      calm := rfl
      nd := S.nd
      units := hr.units
      units2 := Nat.lt_of_le_of_lt (Nat.add_le_add_left (show 65 ≤ 16 * k + 200 by omega) _) (by have z := hr.un; rw [Nat.add_assoc] at z; exact z)
      xe := rfl
      blt := G.blt
      fns := fun y a mv F' hy => (G.fns y a mv F' hy).cal hr
      con := G.con
      cls := G.cls
      mts := fun m tb h1 c a F' h2 => (G.mts m tb h1 c a F' h2).met hr
      isi := G.isi
      N := rfl
      sc := rfl
      fb := fun _ _ => rfl }
    unfold cLaw at hc
    split at hc
    · rename_i _ x1 p1 y1 p2 k1 k2 p3 p4 p5 p6 rest hbody
      split at hc
      · rename_i hcc
        obtain ⟨rfl, e1, rfl, h1, h2, h3, h4⟩ := hcc
        subst e1
        obtain ⟨l1, l2⟩ := C.loc h3
        rw [hbody]
        refine ⟨_, pss_cons (ps_set (i := 0) C.nd (ix_get h4) l1 (pe_slice sl_list (pe_var (i := 0) (ix_get h4) (C.vis h2) (okName_1 h1) (okName_2 h1)) po_none (po_some pe_int)) rfl l2) ((sns Γ n).ss C S.kind hc), ?_⟩
        refine ⟨.ref a, rfl, 63, rfl, a, ns.map V.int, rfl, hA, fun pn hp => ?_⟩
        rw [cut63 hl]
        have e0 : Same H (upd H pn (.lst (ns.map V.int))) := same_upd hp
        have fzn : (O.ints ns).fz = .val (D.ints ns) := by
          unfold O.fz
          rw [O.toD, O.toDs_map, List.map_map]
          rfl
        refine ⟨noS, H, some (O.val (D.ints ns)) :: List.replicate (N.length - 1) none, .rt (.bl true), ?_, hb ns hl, fun v H' as _ ro _ _ => ?_⟩
        · rw [← fzn]
          refine J.fz1 (t := some (O.ints ns) :: List.replicate (N.length - 1) none) (i := 0) (o := O.ints ns) ⟨[pn], ?_, by simp, fun b hb => by rw [List.mem_singleton.mp hb]; exact hp, e0, fun _ z => z.elim⟩ rfl
          refine ⟨.ref pn, List.replicate (N.length - 1) none, [pn], [], rfl, rfl, ?_, RepSl.nones _⟩
          have z := repO_new (k := .lst) (mg := mg) (S := fun b => noS b ∨ b ∈ [pn]) (rep_ints (mg := mg) (H := upd H pn (.lst (ns.map V.int))) ns) (a := pn) upd_same
          rw [ints_map] at z
          exact z
        · have e : v = .bl true := ro.2
          rw [e]
          exact q H'
      · cases hc
    · cases hc
end
/-- a def of the top -/
def DefAt (K : PySem.W.Frag) (x : Str) (st : Stmt) : Prop := ∃ (f : Addr) (oc : Value) (od an : Option Addr) (sl : Array (Option Value)) (kV dc pm cd ct : Value), PySem.W.nsIn K mainGlobals x = some (some (.ref f)) ∧
  K.lookup f = some ⟨oc, od, .func (PySem.W.fnOf x x (defArgs st) (defBody st) (defScope st) .none kV dc pm an cd ct), sl⟩ ∧ PySem.W.codeIn K cd x = true ∧ PySem.W.keepIn K (.ref f) = true
theorem DefAt.mk {K : PySem.W.Frag} {x : Str} {st : Stmt} {f : Addr} {oc : Value} {od an : Option Addr} {sl : Array (Option Value)} {kV dc pm cd ct : Value} (a : PySem.W.nsIn K mainGlobals x = some (some (.ref f)))
    (l : K.lookup f = some ⟨oc, od, .func (PySem.W.fnOf x x (defArgs st) (defBody st) (defScope st) .none kV dc pm an cd ct), sl⟩) (c : PySem.W.codeIn K cd x = true) (k : PySem.W.keepIn K (.ref f) = true) : DefAt K x st := ⟨f, oc, od, an, sl, kV, dc, pm, cd, ct, a, l, c, k⟩
/-- tables of names, one by one -/
theorem glob_nil {P : Program} {w : World} {K : PySem.W.Frag} {mg : Str → Option Value} {base : Heap} {k : Nat} {cs : List (Str × V)} {cl : List (Str × List Str)} {is : List (Str × List (Str × Bool))} (hb : ∀ x ∈ bltNames, mg x = none) (hc : ∀ x v, cs.lookup x = some v → ∃ u, mg x = some u ∧ RelV v u)
    (h1 : ∀ f c, (clsOf cl f).contains c = true → ∀ Ca, mg c = some (.ref Ca) → Cls K Ca ∧ NoAttr K Ca f) (h2 : ∀ y tb, is.lookup y = some tb → ∃ Ca, mg y = some (.ref Ca) ∧ ∀ c b, tb.lookup c = some b → ∀ Ci, mg c = some (.ref Ci) → IsIt K Ci Ca b) : Glob P w K mg base k ⟨[], cs, cl, [], is⟩ := ⟨hb, fun _ _ _ _ h => (by cases h), hc, h1, fun _ _ h => (by cases h), h2⟩
theorem glob_mt {P : Program} {w : World} {K : PySem.W.Frag} {mg : Str → Option Value} {base : Heap} {k : Nat} {fn : List (Str × Nat × List Bool × Fn)} {cs : List (Str × V)} {cl : List (Str × List Str)} {is : List (Str × List (Str × Bool))} {m : Str} {tb : List (Str × Nat × Fn)} (g : ∀ c n F, tb.lookup c = some (n, F) → GoodM P w K mg base k m c n F) (G : Glob P w K mg base k ⟨fn, cs, cl, [], is⟩) : Glob P w K mg base k ⟨fn, cs, cl, [(m, tb)], is⟩ := by
  refine ⟨G.blt, G.fns, G.con, G.cls, fun m' tb' h => ?_, G.isi⟩
  have h : List.lookup m' [(m, tb)] = some tb' := h
  rw [List.lookup_cons] at h
  cases hy : m' == m with
  | true =>
    rw [hy] at h
    cases h
    rw [beq_iff_eq.mp hy]
    exact g
  | false =>
    rw [hy] at h
    cases h
theorem gm_nil {P : Program} {w : World} {K : PySem.W.Frag} {mg : Str → Option Value} {base : Heap} {k : Nat} {m : Str} : ∀ c n F, ([] : List (Str × Nat × Fn)).lookup c = some (n, F) → GoodM P w K mg base k m c n F := fun _ _ _ h => by cases h
theorem gm_cons {P : Program} {w : World} {K : PySem.W.Frag} {mg : Str → Option Value} {base : Heap} {k : Nat} {m c0 : Str} {n0 : Nat} {F0 : Fn} {tb : List (Str × Nat × Fn)} (g0 : GoodM P w K mg base k m c0 n0 F0) (g : ∀ c n F, tb.lookup c = some (n, F) → GoodM P w K mg base k m c n F) : ∀ c n F, ((c0, n0, F0) :: tb).lookup c = some (n, F) → GoodM P w K mg base k m c n F := fun c n F h => by
  rw [List.lookup_cons] at h
  cases hy : c == c0 with
  | true =>
    rw [hy] at h
    cases h
    rw [beq_iff_eq.mp hy]
    exact g0
  | false =>
    rw [hy] at h
    exact g c n F h
theorem cls_nil {K : PySem.W.Frag} {mg : Str → Option Value} : ∀ f c, (clsOf [] f).contains c = true → ∀ Ca, mg c = some (.ref Ca) → Cls K Ca ∧ NoAttr K Ca f := fun f c h => by cases h
theorem cls_cons {K : PySem.W.Frag} {mg : Str → Option Value} {c0 : Str} {C0 : Addr} {fs : List Str} {cl : List (Str × List Str)} (h0 : mg c0 = some (.ref C0)) (hc : Cls K C0) (hf : ∀ f ∈ fs, NoAttr K C0 f) (g : ∀ f c, (clsOf cl f).contains c = true → ∀ Ca, mg c = some (.ref Ca) → Cls K Ca ∧ NoAttr K Ca f) : ∀ f c, (clsOf ((c0, fs) :: cl) f).contains c = true → ∀ Ca, mg c = some (.ref Ca) → Cls K Ca ∧ NoAttr K Ca f := fun f c h Ca hm => by
  unfold clsOf at h
  rw [List.filter_cons] at h
  by_cases hk : fs.contains f = true
  · rw [if_pos hk, List.map_cons, List.contains_cons, Bool.or_eq_true] at h
    rcases h with h | h
    · have e := beq_iff_eq.mp h
      subst e
      rw [h0] at hm
      cases hm
      exact ⟨hc, hf f (by simpa using hk)⟩
    · exact g f c h Ca hm
  · rw [if_neg hk] at h
    exact g f c h Ca hm
theorem isi_nil {K : PySem.W.Frag} {mg : Str → Option Value} : ∀ y tb, ([] : List (Str × List (Str × Bool))).lookup y = some tb → ∃ Ca, mg y = some (.ref Ca) ∧ ∀ c b, tb.lookup c = some b → ∀ Ci, mg c = some (.ref Ci) → IsIt K Ci Ca b := fun _ _ h => by cases h
theorem isi_cons {K : PySem.W.Frag} {mg : Str → Option Value} {y0 : Str} {C0 : Addr} {tb0 : List (Str × Bool)} {is : List (Str × List (Str × Bool))} (h0 : mg y0 = some (.ref C0)) (hc : ∀ c b, tb0.lookup c = some b → ∀ Ci, mg c = some (.ref Ci) → IsIt K Ci C0 b) (g : ∀ y tb, is.lookup y = some tb → ∃ Ca, mg y = some (.ref Ca) ∧ ∀ c b, tb.lookup c = some b → ∀ Ci, mg c = some (.ref Ci) → IsIt K Ci Ca b) : ∀ y tb, ((y0, tb0) :: is).lookup y = some tb → ∃ Ca, mg y = some (.ref Ca) ∧ ∀ c b, tb.lookup c = some b → ∀ Ci, mg c = some (.ref Ci) → IsIt K Ci Ca b := fun y tb h => by
  rw [List.lookup_cons] at h
  cases hy : y == y0 with
  | true =>
    rw [hy] at h
    cases h
    rw [beq_iff_eq.mp hy]
    exact ⟨C0, h0, hc⟩
  | false =>
    rw [hy] at h
    exact g y tb h
theorem is1_nil {K : PySem.W.Frag} {mg : Str → Option Value} {Ca : Addr} : ∀ c b, ([] : List (Str × Bool)).lookup c = some b → ∀ Ci, mg c = some (.ref Ci) → IsIt K Ci Ca b := fun _ _ h => by cases h
theorem is1_cons {K : PySem.W.Frag} {mg : Str → Option Value} {Ca C0 : Addr} {c0 : Str} {b0 : Bool} {tb : List (Str × Bool)} (h0 : mg c0 = some (.ref C0)) (i : IsIt K C0 Ca b0) (g : ∀ c b, tb.lookup c = some b → ∀ Ci, mg c = some (.ref Ci) → IsIt K Ci Ca b) : ∀ c b, ((c0, b0) :: tb).lookup c = some b → ∀ Ci, mg c = some (.ref Ci) → IsIt K Ci Ca b := fun c b h Ci hm => by
  rw [List.lookup_cons] at h
  cases hy : c == c0 with
  | true =>
    rw [hy] at h
    cases h
    rw [beq_iff_eq.mp hy, h0] at hm
    cases hm
    exact i
  | false =>
    rw [hy] at h
    exact g c b h Ci hm
theorem glob_cons {P : Program} {w : World} {K : PySem.W.Frag} {mg : Str → Option Value} {base : Heap} {k : Nat} {cs : List (Str × V)} {cl : List (Str × List Str)} {mt : List (Str × List (Str × Nat × Fn))} {is : List (Str × List (Str × Bool))} {x : Str} {n : Nat} {mv : List Bool} {F : Fn} {r : List (Str × Nat × List Bool × Fn)} (g : Good P w K mg base k x n F) (G : Glob P w K mg base k ⟨r, cs, cl, mt, is⟩) : Glob P w K mg base k ⟨(x, n, mv, F) :: r, cs, cl, mt, is⟩ := by
  refine ⟨G.blt, fun y n' mv' F' h => ?_, G.con, G.cls, G.mts, G.isi⟩
  have h : List.lookup y ((x, n, mv, F) :: r) = some (n', mv', F') := h
  rw [List.lookup_cons] at h
  cases hy : y == x with
  | true =>
    rw [hy] at h
    cases h
    rw [beq_iff_eq.mp hy]
    exact g
  | false =>
    rw [hy] at h
    exact G.fns y n' mv' F' h
theorem con_nil {mg : Str → Option Value} : ∀ x v, ([] : List (Str × V)).lookup x = some v → ∃ u, mg x = some u ∧ RelV v u := fun _ _ h => nomatch h
theorem con_cons {mg : Str → Option Value} {y : Str} {i : Int} {t : Tok} {r : List (Str × V)} (h : mg y = some (.int i t)) (hr : ∀ x v, r.lookup x = some v → ∃ u, mg x = some u ∧ RelV v u) : ∀ x v, ((y, V.int i) :: r).lookup x = some v → ∃ u, mg x = some u ∧ RelV v u := fun x v e => by
  rw [List.lookup_cons] at e
  cases hy : x == y with
  | true =>
    rw [hy] at e
    cases e
    rw [beq_iff_eq.mp hy]
    exact ⟨_, h, t, rfl⟩
  | false =>
    rw [hy] at e
    exact hr x v e
section
variable {P : Program} {w : World} {K : PySem.W.Frag} {mg : Str → Option Value} {base : Heap}
/-- from where a def stands to its promise -/
theorem good_of {x : Str} {st : Stmt} {N ps : List Str} {k n : Nat} {Γ : Gam} {b : SE} {h : Heap} (X : K.In h) (Gn : h.Ns mainGlobals mg) (D : DefAt K x st) (hS : fnScB N ps (defScope st) = true) (hc : cSs Γ n ⟨N, defScope st, fun _ => true⟩ (defBody st) = some b) (G : Glob P w K mg base k Γ)
    (hb : ∀ (kV doc pm : Value) (an : Option Addr) (cdv ct : Value) (us : List Value), us.length = ps.length → bindArgs (PySem.W.fnOf x x (defArgs st) (defBody st) (defScope st) .none kV doc pm an cdv ct) ⟨us, []⟩ = pure (ps.zip us)) :
    Good P w K mg base (k + 1) x ps.length (fnOf ps.length N.length b) := by
  obtain ⟨f, oc, od, an, sl, kV, dc, pm, cd, ct, a, l, c, kk⟩ := D
  have F := fun_mk l c kk
  exact .inl ⟨f, _, ps, def_ok F hS hc G, PySem.W.mg_of X Gn a, kk, F.binds hb⟩
end
end Den

/-! Den15: what a constructor is worth. -/
namespace Den
open PySem L2
/-- the rows of __init__: the fields, and what they are worth -/
noncomputable def cI (Γ : Gam) (n : Nat) (ce : Ce) : List Stmt → Option (List (Str × VE))
  | [] => some []
  | .Assign [.Attribute (.Name x _) f _] e _ :: r => if okName x ∧ ce.vis x ∧ ce.ix x = some 0 then (cV Γ n ce e).bind fun g => (cI Γ n ce r).map ((f, g) :: ·) else none
  | _ => none
def fnI (c : Str) (np n : Nat) (fs : List Str) (gs : List VE) : Fn := fun os => if os.length = np ∧ os.all O.isVal = true ∧ fs.Nodup ∧ fs.length < 1000 then (vAll gs (none :: (os.map some ++ List.replicate (n - (np + 1)) none))).map fun xs => .nd (.ins c fs) xs else none
theorem putF_new {f : Str} {v : V} : ∀ {ns : List Str} {vs : List V}, ns.length = vs.length → f ∉ ns → putF f v (ns.zip vs) = (ns ++ [f]).zip (vs ++ [v])
  | [], [], _, _ => rfl
  | [], _ :: _, h, _ => by cases h
  | _ :: _, [], h, _ => by cases h
  | g :: ns, u :: vs, h, hf => by
    have e : g ≠ f := fun z => hf (by rw [z]; exact List.mem_cons_self)
    rw [List.zip_cons_cons]
    show (if g = f then (g, v) :: ns.zip vs else (g, u) :: putF f v (ns.zip vs)) = _
    rw [if_neg e, putF_new (by simpa using h) fun z => hf (List.mem_cons_of_mem _ z)]
    rfl
def tI (mg : Str → Option Value) (c : Str) (fs : List Str) (gs : List VE) : TS := fun De σ H => ∃ (S : Addr → Prop) (t : Tau) (x dx C : Addr) (ns : List Str) (vs : List V) (os res : List O) (bs : List Addr),
  RepSl mg (fun a => (S a ∨ a = x) ∨ a ∈ bs) H t σ [] ∧ σ[0]? = some (some (.ref x)) ∧ mg c = some (.ref C) ∧ H x = some (.ins C dx (ns.zip vs)) ∧ ns.length = vs.length ∧ RepOs mg (fun a => (S a ∨ a = x) ∨ a ∈ bs) H os vs bs ∧ bs.Nodup ∧ x ∉ bs ∧ (∀ a, S a → H a ≠ none) ∧
  (ns ++ fs).Nodup ∧ ns.length + fs.length < 1000 ∧ vAll gs t = some res ∧
  ∀ H' us bs', (∀ a u, a ≠ x → H a = some u → H' a = some u) → us.length = fs.length → H' x = some (.ins C dx ((ns ++ fs).zip (vs ++ us))) → RepOs mg (fun a => (S a ∨ a = x) ∨ a ∈ bs') H' (os ++ res) (vs ++ us) bs' → bs'.Nodup → x ∉ bs' → (∀ b ∈ bs', b ∈ bs ∨ H b = none) → De.nx σ H'
theorem RepOs.snoc {mg : Str → Option Value} {S : Addr → Prop} {H : Hp} {o : O} {v : V} {as : List Addr} (ho : RepO mg S H o v as) : ∀ {os : List O} {vs : List V} {bs : List Addr}, RepOs mg S H os vs bs → RepOs mg S H (os ++ [o]) (vs ++ [v]) (bs ++ as)
  | [], vs, bs, h => by
    obtain ⟨rfl, rfl⟩ := h
    exact ⟨v, [], as, [], rfl, by rw [List.append_nil]; rfl, ho, rfl, rfl⟩
  | x :: xs, vs, bs, h => by
    obtain ⟨u, r, cs, ds, rfl, rfl, h1, h2⟩ := h
    exact ⟨u, r ++ [v], cs, ds ++ as, rfl, by rw [List.append_assoc], h1, RepOs.snoc ho h2⟩
section
variable {X : Cx} {Γ : Gam} {ce : Ce} {c : Str}
theorem init_go (C : Ctx X Γ ce) {n : Nat} (hcl : ∀ Ca, X.mg c = some (.ref Ca) → Cls X.K Ca) : ∀ {sts : List Stmt} {rows : List (Str × VE)}, cI Γ n ce sts = some rows → (∀ f ∈ rows.map (·.1), ∀ Ca, X.mg c = some (.ref Ca) → NoAttr X.K Ca f) → PSs X sts (tI X.mg c (rows.map (·.1)) (rows.map (·.2)))
  | [], rows, h, _ => by
    cases h
    refine pss_imp pss_nil fun De σ H h => ?_
    obtain ⟨S, t, x, dx, Ca, ns, vs, os, res, bs, r, hσ, hm, hx, hl, ro, nd, xb, hs, nn, ln, hv, q⟩ := h
    cases hv
    exact q H [] bs (fun _ _ _ z => z) rfl (by rw [show ([] : List (Str × VE)).map (·.1) = [] from rfl, List.append_nil, List.append_nil]; exact hx) (by rw [List.append_nil, List.append_nil]; exact ro) nd xb fun b hb => .inl hb
  | st :: sts, rows, h, hna => by
    unfold cI at h
    split at h
    · cases ‹st :: sts = []›
    · rename_i x0 p1 f p2 e p3 r heq
      cases heq
      split at h
      · rename_i hc
        obtain ⟨g, h1, h⟩ := bind_some h
        obtain ⟨rr, h2, rfl⟩ := map_some h
        have ih := init_go C hcl h2 fun f' hf' => hna f' (List.mem_cons_of_mem _ hf')
        have i0 : X.N[0]? = some x0 := by rw [C.N]; exact ix_get hc.2.2
        refine pss_imp (pss_cons (ps_fld (pe_var i0 (C.vis hc.2.1) (okName_1 hc.1) (okName_2 hc.1)) ((snd Γ n).v C h1) (notName fun x p z => by cases z)) ih) fun De σ H h => ?_
        obtain ⟨S, t, x, dx, Ca, ns, vs, os, res, bs, rs, hσ, hm, hx, hl, ro, nd, xb, hs, nn, ln, hv, q⟩ := h
        obtain ⟨o, g1, hv⟩ := bind_some hv
        obtain ⟨rest, g2, rfl⟩ := map_some hv
        have s1 : ∀ a, ((S a ∨ a = x) ∨ a ∈ bs) → H a ≠ none := fun a z => by
          rcases z with (z | z) | z
          · exact hs a z
          · rw [z, hx]; exact fun z => by cases z
          · obtain ⟨u, hu⟩ := ro.there a z
            rw [hu]; exact fun z => by cases z
        refine ⟨_, t, [], o, rs, s1, g1, fun v H1 as e1 r1 nd1 fr1 => ⟨.ref x, hσ, x, Ca, dx, ns.zip vs, rfl, e1 _ _ hx, hcl Ca hm, hna f List.mem_cons_self Ca hm, ?_, ?_⟩⟩
        · rw [List.length_zip]
          have : ns.length + (rr.map (·.1)).length + 1 < 1000 := ln
          omega
        have fn : f ∉ ns := fun z => by
          have := (List.nodup_append.mp nn).2.2 f z f List.mem_cons_self
          exact this rfl
        rw [putF_new hl fn]
        have xa : x ∉ as := fun z => by
          have := fr1 x z
          rw [hx] at this
          cases this
        -- what stays while x changes
        have kp : ∀ a u, a ≠ x → H1 a = some u → upd H1 x (.ins Ca dx ((ns ++ [f]).zip (vs ++ [v]))) a = some u := fun a u ha hu => by rw [upd_ne ha]; exact hu
        have av : ∀ a, ((S a ∨ a = x) ∨ a ∈ bs ++ as) → ((S a ∨ a = x) ∨ a ∈ bs) ∨ H a = none := fun a z => by
          rcases z with z | z
          · exact .inl (.inl z)
          · rcases List.mem_append.mp z with z | z
            · exact .inl (.inr z)
            · exact .inr (fr1 a z)
        have rs' := (rs.offs av e1).keep (fun a z => z) (fun a u na hu => kp a u (fun z => na (.inl (.inr z))) hu) (H' := upd H1 x (.ins Ca dx ((ns ++ [f]).zip (vs ++ [v])))) (fun a ha => by cases ha)
        have ro' := (ro.offs av e1).keep (fun a z => z) (fun a u na hu => kp a u (fun z => na (.inl (.inr z))) hu) (H' := upd H1 x (.ins Ca dx ((ns ++ [f]).zip (vs ++ [v])))) (fun a ha u hu => kp a u (fun z => xb (z ▸ ha)) hu)
        have r1' := r1.keep (S' := fun a => (S a ∨ a = x) ∨ a ∈ bs ++ as) (fun a z => by
          rcases z with z | z
          · exact .inl (.inl z)
          · rcases List.mem_append.mp z with z | z
            · exact .inl (.inr z)
            · exact .inr z) (fun a u na hu => kp a u (fun z => na (.inl (.inl (.inr z)))) hu) (H' := upd H1 x (.ins Ca dx ((ns ++ [f]).zip (vs ++ [v])))) (fun a ha u hu => kp a u (fun z => xa (z ▸ ha)) hu)
        have e2 : Same H H1 := e1
        refine ⟨S, t, x, dx, Ca, ns ++ [f], vs ++ [v], os ++ [o], rest, bs ++ as, rs', hσ, hm, upd_same, by rw [List.length_append, List.length_append, hl]; rfl, RepOs.snoc r1' ro', ?_, ?_, ?_, ?_, ?_, g2, ?_⟩
        · refine List.nodup_append.mpr ⟨nd, nd1, fun z hz w hw ew => ?_⟩
          subst ew
          obtain ⟨u, hu⟩ := ro.there z hz
          rw [fr1 z hw] at hu
          cases hu
        · intro z
          rcases List.mem_append.mp z with z | z
          · exact xb z
          · exact xa z
        · intro a z n
          by_cases ha : a = x
          · rw [ha, upd_same] at n; cases n
          · rw [upd_ne ha] at n
            exact hs a z (e1.free n)
        · rw [List.append_assoc]
          exact nn
        · have : ns.length + (rr.map (·.1)).length + 1 < 1000 := ln
          rw [List.length_append]
          show ns.length + 1 + _ < 1000
          omega
        · intro H' us bs' k1 k2 k3 k4 k5 k6 k7
          refine q H' (v :: us) bs' (fun a u ha hu => k1 a u ha (kp a u ha (e1 a u hu))) (by rw [List.length_cons, k2]; rfl) ?_ ?_ k5 k6 fun b hb => ?_
          · rw [k3, List.append_assoc, List.append_assoc]
            rfl
          · rw [List.append_assoc, List.append_assoc] at k4
            exact k4
          · rcases k7 b hb with z | z
            · rcases List.mem_append.mp z with z | z
              · exact .inl z
              · exact .inr (fr1 b z)
            · by_cases ha : b = x
              · rw [ha, upd_same] at z; cases z
              · rw [upd_ne ha] at z
                exact .inr (e1.free z)
      · cases h
    · cases h
end
section
variable {P : Program} {w : World} {K : PySem.W.Frag} {mg : Str → Option Value} {base : Heap}
/-- a constructor's __init__ keeps the constructor's promise -/
theorem init_ok {x qual c self : Str} {st : Stmt} {f : Addr} {fd : FuncData} {N ps : List Str} {k n : Nat} {Γ : Gam} {rows : List (Str × VE)} (F : Fun K x qual st f fd) (hS : fnScB N (self :: ps) (defScope st) = true) (hc : cI Γ n ⟨N, defScope st, fun _ => true⟩ (defBody st) = some rows) (G : Glob P w K mg base k Γ)
    (hcl : ∀ Ca, mg c = some (.ref Ca) → Cls K Ca) (hna : ∀ f ∈ rows.map (·.1), ∀ Ca, mg c = some (.ref Ca) → NoAttr K Ca f) : FnOk P w K mg base CX0 (k + 1) f fd (self :: ps) (spI mg c ps.length (fnI c ps.length N.length (rows.map (·.1)) (rows.map (·.2)))) := by
  have S := fnScB_ok hS
  refine F.ok S (fun vs H Q E h => ?_) fun cdv A outer s H vs Q E hr h => ?_
  · obtain ⟨S, os, as, o, x, dx, C, us, rfl, hm, hx, r, nd, na, xa, xs, hs, hl, _⟩ := h
    rw [List.length_cons, List.length_cons, r.length, hl]
  · obtain ⟨Sc, os, as, o, x, dx, Ca, us, rfl, hm, hx, r, nd, na, xa, xs, hs, hl, hF, q⟩ := h
    have C : Ctx (cxOf CX0 P w K mg base N qual (defScope st) f cdv A outer s H E).nox Γ ⟨N, defScope st, fun _ => true⟩ := {
      calm := rfl
      nd := S.nd
      units := hr.units
      units2 := Nat.lt_of_le_of_lt (Nat.add_le_add_left (show 65 ≤ 16 * k + 200 by omega) _) (by have z := hr.un; rw [Nat.add_assoc] at z; exact z)
      xe := rfl
      blt := G.blt
      fns := fun y a mv F' hy => (G.fns y a mv F' hy).cal hr
      con := G.con
      cls := G.cls
      mts := fun m tb h1 c a F' h2 => (G.mts m tb h1 c a F' h2).met hr
      isi := G.isi
      N := rfl
      sc := rfl
      fb := fun _ _ => rfl }
    refine ⟨_, init_go (c := c) C hcl hc hna, ?_⟩
    unfold fnI at hF
    split at hF
    · rename_i hh
      obtain ⟨xs', h1, rfl⟩ := map_some hF
      have z := r.noAddr hh.2.1
      subst z
      have lu : us.length = ps.length := by rw [r.length, hl]
      have r' : RepOs mg (fun a => (Sc a ∨ a = x) ∨ a ∈ ([] : List Addr)) H os us [] := r.less fun a z => by
        rcases z with (z | z) | z
        · exact .inl z
        · exact .inr (.inr z)
        · cases z
      have eq : L2.start N (V.ref x :: us) = some (.ref x) :: (us.map some ++ List.replicate (N.length - (ps.length + 1)) none) := by
        unfold L2.start
        rw [List.length_cons, lu]
        rfl
      have rs : RepSl mg (fun a => (Sc a ∨ a = x) ∨ a ∈ ([] : List Addr)) H (none :: (os.map some ++ List.replicate (N.length - (ps.length + 1)) none)) (L2.start N (V.ref x :: us)) [] := by
        rw [eq]
        exact ⟨some (.ref x), _, rfl, RepSl.start r'⟩
      refine ⟨Sc, _, x, dx, Ca, [], [], [], xs', [], rs, by rw [eq]; rfl, hm, hx, rfl, ⟨rfl, rfl⟩, List.nodup_nil, List.not_mem_nil, hs, hh.2.2.1, by show 0 + _ < 1000; rw [Nat.zero_add]; exact hh.2.2.2, h1, fun H' vs' bs' k1 k2 k3 k4 k5 k6 k7 => ?_⟩
      refine q H' (x :: bs') (fun a u _ ha hu => k1 a u ha hu) ⟨x, vs', bs', rfl, rfl, ⟨k2.symm, Ca, dx, hm, k3⟩, k4.less fun a z => ?_⟩ (List.nodup_cons.mpr ⟨k6, k5⟩) fun b hb => ?_
      · rcases z with z | z
        · exact .inl (.inl z)
        · rcases List.mem_cons.mp z with z | z
          · exact .inl (.inr z)
          · exact .inr z
      · rcases List.mem_cons.mp hb with z | z
        · exact .inl z
        · rcases k7 b z with z | z
          · cases z
          · exact .inr (.inr z)
    · cases hF
/-- where a def of a class stands -/
structure InAt (K : PySem.W.Frag) (C f : Addr) (m qual : Str) (st : Stmt) : Prop where
  at_ : PySem.W.findIn K (.ref C) m = some (some (.ref f))
  fn : PySem.W.isFn K (.ref f) = true
  lk : ∃ (oc : Value) (od an : Option Addr) (sl : Array (Option Value)) (kV dc pm cd ct : Value), K.lookup f = some ⟨oc, od, .func (PySem.W.fnOf m qual (defArgs st) (defBody st) (defScope st) .none kV dc pm an cd ct), sl⟩ ∧ PySem.W.codeIn K cd qual = true
  kp : PySem.W.keepIn K (.ref f) = true
theorem InAt.mk' {K : PySem.W.Frag} {C f : Addr} {m qual : Str} {st : Stmt} {oc : Value} {od an : Option Addr} {sl : Array (Option Value)} {kV dc pm cd ct : Value} (a : PySem.W.findIn K (.ref C) m = some (some (.ref f))) (i : PySem.W.isFn K (.ref f) = true)
    (l : K.lookup f = some ⟨oc, od, .func (PySem.W.fnOf m qual (defArgs st) (defBody st) (defScope st) .none kV dc pm an cd ct), sl⟩) (c : PySem.W.codeIn K cd qual = true) (k : PySem.W.keepIn K (.ref f) = true) : InAt K C f m qual st := ⟨a, i, ⟨oc, od, an, sl, kV, dc, pm, cd, ct, l, c⟩, k⟩
theorem goodM_of {c m qual : Str} {C f : Addr} {st : Stmt} {N ps : List Str} {k n : Nat} {Γ : Gam} {b : SE} (hm : mg c = some (.ref C)) (cl : Cls K C) (D : InAt K C f m qual st) (hS : fnScB N ps (defScope st) = true) (hc : cSs Γ n ⟨N, defScope st, fun _ => true⟩ (defBody st) = some b) (G : Glob P w K mg base k Γ)
    (hb : ∀ (kV doc pm : Value) (an : Option Addr) (cdv ct : Value) (us : List Value), us.length = ps.length → bindArgs (PySem.W.fnOf m qual (defArgs st) (defBody st) (defScope st) .none kV doc pm an cdv ct) ⟨us, []⟩ = pure (ps.zip us)) :
    GoodM P w K mg base (k + 1) m c ps.length (fnOf ps.length N.length b) := by
  obtain ⟨oc, od, an, sl, kV, dc, pm, cd, ct, l, cc⟩ := D.lk
  have F := fun_mk l cc D.kp
  exact ⟨C, f, _, ps, hm, cl, ⟨D.at_, D.fn, D.kp⟩, def_ok F hS hc G, F.binds hb⟩
theorem goodI_of {c qual self : Str} {C f : Addr} {st : Stmt} {N ps : List Str} {k n : Nat} {Γ : Gam} {rows : List (Str × VE)} (hm : mg c = some (.ref C)) (cl : Cls K C) (D : InAt K C f "__init__" qual st) (hmk : PySem.W.makesIn K C = true) (hk : PySem.W.keepIn K (.ref C) = true) (hS : fnScB N (self :: ps) (defScope st) = true)
    (hc : cI Γ n ⟨N, defScope st, fun _ => true⟩ (defBody st) = some rows) (G : Glob P w K mg base k Γ) (hna : ∀ f ∈ rows.map (·.1), NoAttr K C f)
    (hb : ∀ (kV doc pm : Value) (an : Option Addr) (cdv ct : Value) (us : List Value), us.length = (self :: ps).length → bindArgs (PySem.W.fnOf "__init__" qual (defArgs st) (defBody st) (defScope st) .none kV doc pm an cdv ct) ⟨us, []⟩ = pure ((self :: ps).zip us)) :
    Good P w K mg base (k + 2) c ps.length (fnI c ps.length N.length (rows.map (·.1)) (rows.map (·.2))) := by
  obtain ⟨oc, od, an, sl, kV, dc, pm, cd, ct, l, cc⟩ := D.lk
  have F := fun_mk l cc D.kp
  refine .inr ⟨C, f, _, self :: ps, k + 1, by omega, ⟨hmk, D.at_, D.fn, hk⟩, init_ok F hS hc G (fun Ca h => ?_) (fun g hg Ca h => ?_), hm, F.binds hb⟩
  · rw [hm] at h
    cases h
    exact cl
  · rw [hm] at h
    cases h
    exact hna g hg
end
end Den

/-! S0: reckoning with what defs are worth. -/
namespace Den
open PySem L2
theorem ob {α β : Type} (a : α) (f : α → Option β) : (some a).bind f = f a := rfl
theorem om {α β : Type} (a : α) (f : α → β) : (some a).map f = some (f a) := rfl
theorem whileN_mono {c : BE} {b : SE} : ∀ {n : Nat} {t : Tau} {o : Out}, whileN c b n t = some o → whileN c b (n + 1) t = some o
  | 0, t, o, h => by cases h
  | n + 1, t, o, h => by
    unfold whileN at h ⊢
    obtain ⟨k, h1, h⟩ := bind_some h
    rw [h1]
    show (if k = true then _ else _) = some o
    cases k with
    | false => exact h
    | true =>
      rw [if_pos rfl] at h ⊢
      obtain ⟨u, h2, h⟩ := bind_some h
      rw [h2]
      cases u with
      | nx t2 => exact whileN_mono h
      | ct t2 => exact whileN_mono h
      | bk t2 => exact h
      | rt o2 => exact h
theorem whileN_le {c : BE} {b : SE} {n m : Nat} {t : Tau} {o : Out} (h : whileN c b n t = some o) (hm : n ≤ m) : whileN c b m t = some o := by
  induction hm with
  | refl => exact h
  | step _ ih => exact whileN_mono ih
theorem sWhile_of {c : BE} {b : SE} {n : Nat} {t : Tau} {o : Out} (h : whileN c b n t = some o) : sWhile c b t = some o := by
  unfold sWhile
  have hex : ∃ n, (whileN c b n t).isSome := ⟨n, by rw [h]; rfl⟩
  rw [dif_pos hex]
  obtain ⟨o', h'⟩ := Option.isSome_iff_exists.mp hex.choose_spec
  rw [h']
  have h1 := whileN_le h' (Nat.le_max_left hex.choose n)
  have h2 := whileN_le h (Nat.le_max_right hex.choose n)
  rw [h1] at h2
  exact h2
theorem sWhile_some {c : BE} {b : SE} {t : Tau} {o : Out} (h : sWhile c b t = some o) : ∃ n, whileN c b n t = some o := by
  unfold sWhile at h
  split at h
  · exact ⟨_, h⟩
  · cases h
/-- the test fails -/
theorem while_end {c : BE} {b : SE} {t : Tau} (h : c t = some false) : sWhile c b t = some (.nx t) := sWhile_of (n := 1) (by
  unfold whileN
  rw [h]
  rfl)
/-- one turn -/
theorem while_turn {c : BE} {b : SE} {t t2 : Tau} {o : Out} (h : c t = some true) (hb : b t = some (.nx t2)) (hr : sWhile c b t2 = some o) : sWhile c b t = some o := by
  obtain ⟨n, hn⟩ := sWhile_some hr
  refine sWhile_of (n := n + 1) ?_
  unfold whileN
  rw [h, ob, if_pos rfl, hb]
  exact hn
/-- a for whose turns go on: R by the turn -/
theorem for_go {g : GE} {b : SE} {ds : List D} {t : Tau} (R : Nat → Tau → Prop) (h0 : R 0 t) (hs : ∀ (i : Nat) (d : D) (t : Tau), ds[i]? = some d → R i t → ∃ t', ((g d t).bind b) = some (.nx t') ∧ R (i + 1) t') :
    ∃ t', forIn' g b ds t = some (.nx t') ∧ R ds.length t' := by
  induction ds generalizing t R with
  | nil => exact ⟨t, rfl, h0⟩
  | cons d ds ih =>
    obtain ⟨t1, h1, h2⟩ := hs 0 d t rfl h0
    obtain ⟨t2, h3, h4⟩ := ih (fun i => R (i + 1)) h2 fun i d t hd hr => hs (i + 1) d t (by simpa using hd) hr
    refine ⟨t2, ?_, h4⟩
    obtain ⟨t0, g0, b0⟩ := bind_some h1
    unfold forIn'
    rw [g0]
    show ((b t0).bind _) = _
    rw [b0]
    exact h3
/-- a for whose turn returns at none -/
theorem lc_all {g : GE} {e : VE} {t : Tau} {f : D → D} : ∀ {ds : List D}, (∀ d ∈ ds, ∃ t1 o, g d t = some t1 ∧ e t1 = some o ∧ o.toD = f d) → lcItems g bYes e t ds = some (ds.map f)
  | [], _ => rfl
  | d :: ds, h => by
    obtain ⟨t1, o, h1, h2, h3⟩ := h d List.mem_cons_self
    unfold lcItems
    rw [h1, ob, show bYes t1 = some true from rfl, ob, if_pos rfl, h2, ob, lc_all fun d hd => h d (List.mem_cons_of_mem _ hd), h3]
    rfl
theorem vLc_all {w : WE} {own : List Nat} {g : GE} {e : VE} {t : Tau} {f : D → D} {ds : List D} (hw : w t = some ds) (hl : ds.length ≤ big) (h : ∀ d ∈ ds, ∃ t1 o, g d (wipeT t own) = some t1 ∧ e t1 = some o ∧ o.toD = f d) :
    vLc w own g bYes e t = some (.nd .lst (ds.map fun d => .val (f d))) := by
  unfold vLc
  rw [hw]
  show (if ds.length ≤ big then _ else _) = _
  rw [if_pos hl, lc_all h]
  show some (O.nd .lst ((ds.map f).map O.val)) = _
  rw [List.map_map]
  rfl
/-- with a test -/
theorem lc_some {g : GE} {c : BE} {e : VE} {t : Tau} {f : D → D} {k : D → Bool} : ∀ {ds : List D}, (∀ d ∈ ds, ∃ t1, g d t = some t1 ∧ c t1 = some (k d) ∧ (k d = true → ∃ o, e t1 = some o ∧ o.toD = f d)) → lcItems g c e t ds = some ((ds.filter k).map f)
  | [], _ => rfl
  | d :: ds, h => by
    obtain ⟨t1, h1, h2, h3⟩ := h d List.mem_cons_self
    have ih := lc_some (ds := ds) fun d hd => h d (List.mem_cons_of_mem _ hd)
    unfold lcItems
    rw [h1]
    show (c t1).bind _ = _
    rw [h2]
    show (if k d = true then _ else _) = _
    by_cases hk : k d = true
    · obtain ⟨o, h4, h5⟩ := h3 hk
      rw [if_pos hk, h4, List.filter_cons, if_pos hk]
      show (lcItems g c e t ds).map _ = _
      rw [ih, h5]
      rfl
    · rw [if_neg hk, List.filter_cons, if_neg hk]
      exact ih
theorem vLc_some {w : WE} {own : List Nat} {g : GE} {c : BE} {e : VE} {t : Tau} {f : D → D} {k : D → Bool} {ds : List D} (hw : w t = some ds) (hl : ds.length ≤ big) (h : ∀ d ∈ ds, ∃ t1, g d (wipeT t own) = some t1 ∧ c t1 = some (k d) ∧ (k d = true → ∃ o, e t1 = some o ∧ o.toD = f d)) :
    vLc w own g c e t = some (.nd .lst ((ds.filter k).map fun d => .val (f d))) := by
  unfold vLc
  rw [hw]
  show (if ds.length ≤ big then _ else _) = _
  rw [if_pos hl, lc_some h]
  show some (O.nd .lst (((ds.filter k).map f).map O.val)) = _
  rw [List.map_map]
  rfl
/-- over images -/
theorem vLc_map {α : Type} {w : WE} {own : List Nat} {g : GE} {e : VE} {t : Tau} {xs : List α} {φ ψ : α → D} (hw : w t = some (xs.map φ)) (hl : xs.length ≤ big) (h : ∀ x ∈ xs, ((g (φ x) (wipeT t own)).bind e).map O.toD = some (ψ x)) :
    vLc w own g bYes e t = some (.nd .lst (xs.map fun x => .val (ψ x))) := by
  have go : ∀ xs : List α, (∀ x ∈ xs, ((g (φ x) (wipeT t own)).bind e).map O.toD = some (ψ x)) → lcItems g bYes e (wipeT t own) (xs.map φ) = some (xs.map ψ) := by
    intro xs
    induction xs with
    | nil => intro _; rfl
    | cons x r ih =>
      intro h
      obtain ⟨o, h1, h2⟩ := map_some (h x List.mem_cons_self)
      obtain ⟨t1, h3, h4⟩ := bind_some h1
      rw [List.map_cons]
      unfold lcItems
      rw [h3, ob, show bYes t1 = some true from rfl, ob, if_pos rfl, h4, ob, ih fun y hy => h y (List.mem_cons_of_mem _ hy), h2]
      rfl
  unfold vLc
  rw [hw, ob, if_pos (by rw [List.length_map]; exact hl), go xs h]
  show some (O.nd .lst ((xs.map ψ).map O.val)) = _
  rw [List.map_map]
  rfl
theorem vLc_mapF {α : Type} {w : WE} {own : List Nat} {g : GE} {c : BE} {e : VE} {t : Tau} {xs : List α} {φ ψ : α → D} {k : α → Bool} (hw : w t = some (xs.map φ)) (hl : xs.length ≤ big) (hc : ∀ x ∈ xs, ((g (φ x) (wipeT t own)).bind c) = some (k x)) (h : ∀ x ∈ xs, k x = true → ((g (φ x) (wipeT t own)).bind e).map O.toD = some (ψ x)) :
    vLc w own g c e t = some (.nd .lst ((xs.filter k).map fun x => .val (ψ x))) := by
  have go : ∀ xs : List α, (∀ x ∈ xs, ((g (φ x) (wipeT t own)).bind c) = some (k x)) → (∀ x ∈ xs, k x = true → ((g (φ x) (wipeT t own)).bind e).map O.toD = some (ψ x)) → lcItems g c e (wipeT t own) (xs.map φ) = some ((xs.filter k).map ψ) := by
    intro xs
    induction xs with
    | nil => intro _ _; rfl
    | cons x r ih =>
      intro hc h
      obtain ⟨t1, h3, h5⟩ := bind_some (hc x List.mem_cons_self)
      rw [List.map_cons]
      unfold lcItems
      rw [h3, ob, h5, ob]
      have ih := ih (fun y hy => hc y (List.mem_cons_of_mem _ hy)) fun y hy => h y (List.mem_cons_of_mem _ hy)
      by_cases hk : k x = true
      · obtain ⟨o, h1, h2⟩ := map_some (h x List.mem_cons_self hk)
        rw [h3, ob] at h1
        rw [if_pos hk, h1, ob, ih, h2, List.filter_cons, if_pos hk]
        rfl
      · rw [if_neg hk, ih, List.filter_cons, if_neg hk]
  unfold vLc
  rw [hw, ob, if_pos (by rw [List.length_map]; exact hl), go xs hc h]
  show some (O.nd .lst (((xs.filter k).map ψ).map O.val)) = _
  rw [List.map_map]
  rfl
theorem vals_map' {α : Type} (ψ : α → D) (xs : List α) : O.vals? (xs.map fun x => .val (ψ x)) = some (xs.map ψ) := by
  induction xs with
  | nil => rfl
  | cons d r ih => rw [List.map_cons, O.vals?, ih]; rfl
theorem toDs_map' {α : Type} (ψ : α → D) (xs : List α) : O.toDs (xs.map fun x => .val (ψ x)) = xs.map ψ := by
  induction xs with
  | nil => rfl
  | cons d r ih => rw [List.map_cons, O.toDs, ih]; rfl
theorem ints?_map' {α : Type} (f : α → Int) (xs : List α) : ints? (xs.map fun x => .at (.int (f x))) = some (xs.map f) := by
  induction xs with
  | nil => rfl
  | cons n r ih => rw [List.map_cons, ints?, ih]; rfl
theorem bls?_map' {α : Type} (f : α → Bool) (xs : List α) : bls? (xs.map fun x => .at (.bl (f x))) = some (xs.map f) := by
  induction xs with
  | nil => rfl
  | cons n r ih => rw [List.map_cons, bls?, ih]; rfl
/-! ### data -/
theorem toD_int (i : Int) : (O.int i).toD = D.int i := rfl
theorem toDs_ints (ns : List Int) : O.toDs (ns.map O.int) = ns.map D.int := by
  rw [O.toDs_map, List.map_map]
  rfl
theorem toD_ints (ns : List Int) : (O.ints ns).toD = D.ints ns := by
  rw [O.toD, toDs_ints]
theorem vals_map (ds : List D) : O.vals? (ds.map O.val) = some ds := by
  induction ds with
  | nil => rfl
  | cons d r ih => rw [List.map_cons, O.vals?, ih]; rfl
theorem toDs_vals (ds : List D) : O.toDs (ds.map O.val) = ds := by
  rw [O.toDs_map, List.map_map]
  exact List.map_id ds
theorem top_vals (k : Nk) (ds : List D) : (O.nd k (ds.map O.val)).top = some (k, ds) := by
  show (O.vals? (ds.map O.val)).map (fun ds => (k, ds)) = _
  rw [vals_map]
  rfl
theorem ints_eq (ns : List Int) : O.ints ns = .nd .lst ((ns.map D.int).map O.val) := by
  rw [List.map_map]
  rfl
theorem top_ints (ns : List Int) : (O.ints ns).top = some (.lst, ns.map D.int) := by
  rw [ints_eq, top_vals]
theorem top_vints (ns : List Int) : (O.val (D.ints ns)).top = some (.lst, ns.map D.int) := rfl
theorem ints?_map (ns : List Int) : ints? (ns.map D.int) = some ns := by
  induction ns with
  | nil => rfl
  | cons n r ih => rw [List.map_cons, ints?, ih]; rfl
theorem bls?_map (ns : List Bool) : bls? (ns.map D.bl) = some ns := by
  induction ns with
  | nil => rfl
  | cons n r ih => rw [List.map_cons, bls?, ih]; rfl
theorem flats?_ints (ns : List Int) : flats? (ns.map D.int) = some (ns.map V.int) := by
  induction ns with
  | nil => rfl
  | cons n r ih => rw [List.map_cons, flats?, ih]; rfl
theorem atI_map {α β : Type} (f : α → β) (xs : List α) (j : Int) : atI (xs.map f) j = (atI xs j).map f := by
  unfold atI
  rw [List.length_map]
  cases ixN xs.length j with
  | none => rfl
  | some m =>
    show (xs.map f)[m]? = (xs[m]?).map f
    rw [List.getElem?_map]
theorem allFlats_ints (ns : List Int) : O.allFlats (ns.map O.int) = true := by
  induction ns with
  | nil => rfl
  | cons n r ih => rw [List.map_cons, O.allFlats, ih]; rfl
theorem allFlat_ints (ns : List Int) : (O.ints ns).allFlat = true := by
  rw [O.allFlat, allFlats_ints]
theorem cut_map {α β : Type} (f : α → β) (xs : List α) (lo hi : Option Int) : cut (xs.map f) lo hi = (cut xs lo hi).map f := by
  unfold cut
  rw [List.length_map, List.map_take, List.map_drop]
/-! ### equality -/
mutual
/-- data that are asked for equality: at most so deep -/
def D.simple : Nat → D → Bool
  | _, .at .non => true
  | _, .at (.bl _) => true
  | _, .at (.int _) => true
  | n + 1, .nd .lst xs => D.simples n xs
  | n + 1, .nd .tup xs => D.simples n xs
  | _, _ => false
def D.simples : Nat → List D → Bool
  | _, [] => true
  | n, x :: xs => x.simple n && D.simples n xs
end
mutual
def D.toPy : D → PyData
  | .at (.bl b) => .bool b
  | .at (.int b) => .int b
  | .nd .lst xs => .list (D.toPys xs)
  | .nd .tup xs => .tuple (D.toPys xs)
  | _ => .none
def D.toPys : List D → List PyData
  | [] => []
  | x :: xs => x.toPy :: D.toPys xs
end
mutual
theorem simple_ok : ∀ {n : Nat} {d : D}, d.simple n = true → d.py = some d.toPy ∧ d.toPy.canLay0 = true ∧ d.toPy.depth ≤ n + 1
  | n, .at .non, h => ⟨rfl, rfl, by simp [D.toPy, PyData.depth]⟩
  | n, .at (.bl _), h => ⟨rfl, rfl, by simp [D.toPy, PyData.depth]⟩
  | n, .at (.int _), h => ⟨rfl, rfl, by simp [D.toPy, PyData.depth]⟩
  | n + 1, .nd .lst xs, h => by
    obtain ⟨q1, q2, q3⟩ := simples_ok (n := n) (ds := xs) (by simpa [D.simple] using h)
    refine ⟨by rw [D.py, q1]; rfl, by simpa [D.toPy, PyData.canLay0] using q2, ?_⟩
    simp only [D.toPy, PyData.depth]
    omega
  | n + 1, .nd .tup xs, h => by
    obtain ⟨q1, q2, q3⟩ := simples_ok (n := n) (ds := xs) (by simpa [D.simple] using h)
    refine ⟨by rw [D.py, q1]; rfl, by simpa [D.toPy, PyData.canLay0] using q2, ?_⟩
    simp only [D.toPy, PyData.depth]
    omega
  | n, .at (.str _), h => by simp [D.simple] at h
  | n, .at (.byt _), h => by simp [D.simple] at h
  | n, .at (.flt _), h => by simp [D.simple] at h
  | n, .at (.ref _), h => by simp [D.simple] at h
  | n, .at (.ty _), h => by simp [D.simple] at h
  | 0, .nd .lst xs, h => by simp [D.simple] at h
  | 0, .nd .tup xs, h => by simp [D.simple] at h
  | n, .nd (.ins _ _) xs, h => by simp [D.simple] at h
  | n, .nd (.dk _) xs, h => by simp [D.simple] at h
  | n, .nd (.dt _) xs, h => by simp [D.simple] at h
theorem simples_ok : ∀ {n : Nat} {ds : List D}, D.simples n ds = true → D.pys ds = some (D.toPys ds) ∧ PyData.canLayAll0 (D.toPys ds) = true ∧ PyData.depthAll (D.toPys ds) ≤ n + 1
  | n, [], h => ⟨rfl, rfl, by simp [D.toPys, PyData.depthAll]⟩
  | n, x :: xs, h => by
    rw [D.simples, Bool.and_eq_true] at h
    obtain ⟨p1, p2, p3⟩ := simple_ok h.1
    obtain ⟨q1, q2, q3⟩ := simples_ok h.2
    refine ⟨by rw [D.pys, p1, q1]; rfl, by simp [D.toPys, PyData.canLayAll0, p2, q2], ?_⟩
    simp only [D.toPys, PyData.depthAll]
    omega
end
theorem dEq_of {x y : D} (hx : x.simple 60 = true) (hy : y.simple 60 = true) : dEq x y = some (PyData.eqv x.toPy y.toPy) := by
  obtain ⟨a1, a2, a3⟩ := simple_ok hx
  obtain ⟨b1, b2, b3⟩ := simple_ok hy
  unfold dEq
  rw [a1, b1, ob, ob, if_pos]
  constructor
  · unfold SeqAt.shaped
    rw [a2, decide_eq_true (by omega)]
    rfl
  · unfold SeqAt.shaped
    rw [b2, decide_eq_true (by omega)]
    rfl
theorem dEq_int (i j : Int) : dEq (D.int i) (D.int j) = some (decide (i = j)) := by
  rw [dEq_of rfl rfl]
  congr 1
theorem dEq_bl (i j : Bool) : dEq (D.bl i) (D.bl j) = some (decide (i = j)) := by
  cases i <;> cases j <;> rfl
theorem simples_ints {n : Nat} (ns : List Int) : D.simples n (ns.map D.int) = true := by
  induction ns with
  | nil => simp [D.simples]
  | cons a r ih => rw [List.map_cons, D.simples, ih]; simp [D.simple]
theorem simple_ints {n : Nat} (ns : List Int) : (D.ints ns).simple (n + 1) = true := by
  rw [D.simple, simples_ints]
theorem toPys_ints (ns : List Int) : D.toPys (ns.map D.int) = ns.map PyData.int := by
  induction ns with
  | nil => rfl
  | cons a r ih => rw [List.map_cons, D.toPys, ih]; rfl
theorem toPy_ints (ns : List Int) : (D.ints ns).toPy = .list (ns.map PyData.int) := by
  rw [D.toPy, toPys_ints]
theorem eqvAll_ints : ∀ (ns ms : List Int), PyData.eqvAll (ns.map PyData.int) (ms.map PyData.int) = decide (ns = ms)
  | [], [] => rfl
  | [], _ :: _ => by simp [PyData.eqvAll]
  | _ :: _, [] => by simp [PyData.eqvAll]
  | a :: r, b :: q => by
    rw [List.map_cons, List.map_cons, PyData.eqvAll, eqvAll_ints r q]
    by_cases h : a = b <;> by_cases h2 : r = q <;> simp [PyData.eqv, h, h2]
theorem eqv_ints (ns ms : List Int) : PyData.eqv (.list (ns.map PyData.int)) (.list (ms.map PyData.int)) = decide (ns = ms) := by
  rw [PyData.eqv, eqvAll_ints]
theorem dEq_ints (ns ms : List Int) : dEq (D.ints ns) (D.ints ms) = some (decide (ns = ms)) := by
  rw [dEq_of (simple_ints ns) (simple_ints ms), toPy_ints, toPy_ints, eqv_ints]
theorem kit_ii : kitB "int" "int" = some true := by decide +kernel
theorem kit_ib : kitB "int" "bool" = some false := by decide +kernel
theorem kit_ll : kitB "list" "list" = some true := by decide +kernel
theorem kit_tt : kitB "tuple" "tuple" = some true := by decide +kernel
theorem vals_mapI (ns : List Int) : O.vals? (ns.map fun x => O.val (.at (.int x))) = some (ns.map D.int) := by
  induction ns with
  | nil => rfl
  | cons d r ih => rw [List.map_cons, O.vals?, ih]; rfl
/-! ### one row behind the other -/
theorem fn_rt {np n : Nat} {b : SE} {os : List O} {o : O} (hl : os.length = np) (h : b (os.map some ++ List.replicate (n - np) none) = some (.rt o)) : fnOf np n b os = some o := by
  unfold fnOf
  rw [if_pos hl, h]
  rfl
theorem fn_nx {np n : Nat} {b : SE} {os : List O} {t : Tau} (hl : os.length = np) (h : b (os.map some ++ List.replicate (n - np) none) = some (.nx t)) : fnOf np n b os = some .non := by
  unfold fnOf
  rw [if_pos hl, h]
  rfl
theorem seq_go {s u : SE} {t t' : Tau} {r : Option Out} (h1 : s t = some (.nx t')) (h2 : u t' = r) : sSeq s u t = r := by
  unfold sSeq
  rw [h1, ob]
  exact h2
theorem seq_rt {s u : SE} {t : Tau} {o : O} (h1 : s t = some (.rt o)) : sSeq s u t = some (.rt o) := by
  unfold sSeq
  rw [h1, ob]
theorem nx_rfl {t : Tau} : sNext t = some (.nx t) := rfl
theorem if_t {c : BE} {s u : SE} {t : Tau} {r : Option Out} (h : c t = some true) (h2 : s t = r) : sIf c s u t = r := by
  unfold sIf
  rw [h, ob, if_pos rfl]
  exact h2
theorem if_f {c : BE} {s u : SE} {t : Tau} {r : Option Out} (h : c t = some false) (h2 : u t = r) : sIf c s u t = r := by
  unfold sIf
  rw [h, ob, if_neg (by decide)]
  exact h2
/-! ### one operation behind the other -/
theorem e_bin {op : Operator} {a b : VE} {t : Tau} {x y o : O} (h1 : a t = some x) (h2 : b t = some y) (h : dBin op x y = some o) : vBin op a b t = some o := by
  unfold vBin v2
  rw [h1, ob, h2, ob]
  exact h
theorem e_fz {a : VE} {t : Tau} {x : O} (h : a t = some x) : bFz a t = some (.val x.toD) := by
  unfold bFz
  rw [h]
  rfl
theorem e_of {a : VE} {t : Tau} {d : D} (h : a t = some (.val d)) : vOf a t = some (.val d) := by
  unfold vOf
  rw [h]
  rfl
theorem e_v1 {g : O → Option O} {a : VE} {t : Tau} {x o : O} (h : a t = some x) (hg : g x = some o) : v1 g a t = some o := by
  unfold v1
  rw [h]
  exact hg
theorem e_v2 {g : O → O → Option O} {a b : VE} {t : Tau} {x y o : O} (h1 : a t = some x) (h2 : b t = some y) (h : g x y = some o) : v2 g a b t = some o := by
  unfold v2
  rw [h1, ob, h2, ob]
  exact h
theorem child_nd {x : O} {j : Int} {o : O} (h : x.child j = some o) : x.isDict = false := by
  unfold O.child at h
  split at h <;> first | rfl | cases h
theorem e_ix {a b : VE} {t : Tau} {x : O} {j : Int} {o : O} (h1 : a t = some x) (h2 : b t = some (.int j)) (h : x.child j = some o) : bIx a b t = some o := e_v2 h1 h2 (by
  unfold dIx
  rw [child_nd h, if_neg (by decide)]
  exact h)
theorem e_cmp {op : CmpOp} {a b : VE} {t : Tau} {x y : O} {k : Bool} (h1 : a t = some x) (h2 : b t = some y) (h : dCmp op x y = some k) : vCmp op a b t = some (.bl k) := by
  unfold vCmp
  rw [h1, ob, h2, ob, h]
  rfl
theorem e_T {a : VE} {t : Tau} {k : Bool} (h : a t = some (.bl k)) : bT a t = some k := by
  unfold bT
  rw [h]
  rfl
theorem e_call {F : Fn} {as : List AE} {t : Tau} {os : List O} {r : O} (h1 : aAll as t = some (os, true)) (h2 : F os = some r) : vCall F as t = some r := by
  unfold vCall
  rw [h1, ob]
  show ((F os).bind _) = _
  rw [h2, ob, if_pos (.inl rfl)]
theorem e_callF {F : Fn} {as : List AE} {t : Tau} {os : List O} {k : Bool} {r : O} (h1 : aAll as t = some (os, k)) (h2 : F os = some r) (h3 : os.all O.isVal = true) (h4 : r.allFlat = true) : vCall F as t = some r := by
  unfold vCall
  rw [h1, ob]
  show ((F os).bind _) = _
  rw [h2, ob, if_pos (.inr ⟨h3, h4⟩)]
theorem e_ret {e : VE} {t : Tau} {o : O} (h : e (fzAll t) = some o) : sRet e t = some (.rt o) := by
  unfold sRet
  rw [h]
  rfl
theorem e_asg {i : Nat} {e : VE} {t : Tau} {o : O} (h : e t = some o) : sAsg i e t = some (.nx (t.set i (some o))) := by
  unfold sAsg
  rw [h]
  rfl
theorem e_for {w : WE} {g : GE} {b : SE} {t : Tau} {ds : List D} {r : Option Out} (h : w t = some ds) (h2 : forIn' g b ds t = r) : sFor w g b t = r := by
  unfold sFor
  rw [h]
  exact h2
theorem mod_e {a m : Int} (h : 0 < m) : dBin .Mod (.int a) (.int m) = some (.int (a % m)) := by
  show (if 0 < m then _ else _) = _
  rw [if_pos h]
theorem mul_e {a b : Int} (h : a.natAbs.log2 + b.natAbs.log2 < 1000000) : dBin .Mult (.int a) (.int b) = some (.int (a * b)) := by
  show (if a.natAbs.log2 + b.natAbs.log2 < 1000000 then _ else _) = _
  rw [if_pos h]
theorem div_e {a m : Int} (h : 0 < m) (h2 : m.natAbs.log2 < 9000) : dBin .FloorDiv (.int a) (.int m) = some (.int (a / m)) := by
  show (if 0 < m ∧ m.natAbs.log2 < 9000 then _ else _) = _
  rw [if_pos ⟨h, h2⟩]
theorem map_toD {x : Option O} {o : O} (h : x = some o) : x.map O.toD = some o.toD := by
  rw [h]
  rfl
theorem el {g : GE} {e : VE} {d : D} {t0 t1 : Tau} {o : O} (h1 : g d t0 = some t1) (h2 : e t1 = some o) : ((g d t0).bind e).map O.toD = some o.toD := by
  rw [h1, ob, h2]
  rfl
theorem cat_e {x y : O} {xs ys : List D} (hx : x.top = some (.lst, xs)) (hy : y.top = some (.lst, ys)) (h : xs.length + ys.length ≤ big) : dBin .Add x y = some (.nd .lst ((xs ++ ys).map O.val)) := by
  show dAdd x y = _
  unfold dAdd
  split
  · cases hx
  · rw [hx, hy]
    show (if xs.length + ys.length ≤ big then _ else _) = _
    rw [if_pos h]
theorem shl_e {i : Int} {j : Nat} (h : j ≤ 1000000) (hi : i.natAbs < 2 ^ 64) : dBin .LShift (.int i) (.int (j : Int)) = some (.int (i * 2 ^ j)) := by
  have e : dBin .LShift (.int i) (.int (j : Int)) = if 0 ≤ (j : Int) ∧ (j : Int) ≤ 1000000 ∧ i.natAbs < 2 ^ 64 then some (O.int (i * 2 ^ (j : Int).toNat)) else none := rfl
  rw [e, if_pos ⟨by omega, by omega, hi⟩, Int.toNat_natCast]
theorem pow_e {i : Int} {j : Nat} (h : j ≤ 1000000) (hi : i.natAbs < 2 ^ 64) : dBin .Pow (.int i) (.int (j : Int)) = some (.int (i ^ j)) := by
  have e : dBin .Pow (.int i) (.int (j : Int)) = if 0 ≤ (j : Int) ∧ (j : Int) ≤ 1000000 ∧ i.natAbs < 2 ^ 64 then some (O.int (i ^ (j : Int).toNat)) else none := rfl
  rw [e, if_pos ⟨by omega, by omega, hi⟩, Int.toNat_natCast]
theorem shr_e {i : Int} {j : Nat} : dBin .RShift (.int i) (.int (j : Int)) = some (.int (i / 2 ^ j)) := by
  have e : dBin .RShift (.int i) (.int (j : Int)) = if 0 ≤ (j : Int) then some (O.int (i / 2 ^ (j : Int).toNat)) else none := rfl
  rw [e, if_pos (by omega), Int.toNat_natCast]
theorem app_e {i : Nat} {e : VE} {t : Tau} {o : O} {os : List O} (he : e t = some o) (hi : bVar i t = some (.nd .lst os)) (hl : os.length < big) : sApp i [] e t = some (.nx (t.set i (some (.nd .lst (os ++ [.val o.toD]))))) := by
  unfold sApp
  rw [he, ob]
  unfold sMod
  rw [hi, ob]
  have e1 : modAt (mApp o.toD) [] (.nd .lst os) = (if os.length < big then some (Nk.lst, os ++ [.val o.toD]) else none).map fun r => .nd r.1 r.2 := rfl
  rw [e1, if_pos hl]
  rfl
theorem put_e {i : Nat} {j e : VE} {t : Tau} {o : O} {os : List O} {m : Nat} (he : e t = some o) (hj : j t = some (.int (m : Int))) (hi : bVar i t = some (.nd .lst os)) (hl : m < os.length) : sPut i [] j e t = some (.nx (t.set i (some (.nd .lst (os.set m (.val o.toD)))))) := by
  unfold sPut
  rw [he, ob, hj, ob]
  unfold sMod
  rw [hi, ob]
  have e1 : modAt (mPut (.int (m : Int)) o.toD) [] (.nd .lst os) = ((ixN os.length (m : Int)).map fun k => (Nk.lst, os.set k (.val o.toD))).map fun r => .nd r.1 r.2 := rfl
  have e2 : ixN os.length (m : Int) = some m := by
    unfold ixN
    rw [if_pos (by omega), if_pos (by omega), Int.toNat_natCast]
  rw [e1, e2]
  rfl
theorem all_0 {t : Tau} : vAll [] t = some [] := rfl
theorem all_1 {e : VE} {r : List VE} {t : Tau} {o : O} {os : List O} (h : e t = some o) (hr : vAll r t = some os) : vAll (e :: r) t = some (o :: os) := by
  unfold vAll
  rw [h, ob, hr]
  rfl
theorem par_e {is : List Nat} {es : List VE} {t t' : Tau} {os : List O} (h : vAll es t = some os) (hs : setAll is os t = some t') : sPar is es t = some (.nx t') := by
  unfold sPar
  rw [h, ob, hs]
  rfl
theorem e_if_t {c : BE} {a b : VE} {t : Tau} {r : Option O} (h : c t = some true) (h2 : a t = r) : vIf c a b t = r := by
  unfold vIf
  rw [h, ob, if_pos rfl]
  exact h2
theorem e_if_f {c : BE} {a b : VE} {t : Tau} {r : Option O} (h : c t = some false) (h2 : b t = r) : vIf c a b t = r := by
  unfold vIf
  rw [h, ob, if_neg (by decide)]
  exact h2
theorem as_0 {t : Tau} : aAll [] t = some ([], true) := rfl
theorem as_1 {e : AE} {r : List AE} {t : Tau} {o : O} {k j : Bool} {os : List O} (h : e t = some (o, k)) (hr : aAll r t = some (os, j)) : aAll (e :: r) t = some (o :: os, k && j) := by
  unfold aAll
  rw [h, ob, hr]
  rfl
theorem as_t {e : AE} {r : List AE} {t : Tau} {o : O} {os : List O} (h : e t = some (o, true)) (hr : aAll r t = some (os, true)) : aAll (e :: r) t = some (o :: os, true) := as_1 h hr
theorem a_pl {b : VE} {t : Tau} {d : D} (h : b t = some (.val d)) : aPl b t = some (.val d, true) := by
  unfold aPl
  rw [h]
  rfl
theorem a_np {b : VE} {t : Tau} {o : O} (h : b t = some o) : aNp b t = some (.val o.toD, true) := by
  unfold aNp
  rw [h]
  rfl
theorem a_mv {b : VE} {t : Tau} {o : O} (h : b t = some o) : aMv b t = some (o, true) := by
  unfold aMv
  rw [h]
  rfl
theorem e_drop {e : VE} {t : Tau} {o : O} (h : e t = some o) : sDrop e t = some (.nx t) := by
  unfold sDrop
  rw [h]
  rfl
theorem lt_e (i j : Int) : dCmp .Lt (.int i) (.int j) = some (decide (i < j)) := rfl
theorem le_e (i j : Int) : dCmp .LtE (.int i) (.int j) = some (decide (i ≤ j)) := rfl
theorem gt_e (i j : Int) : dCmp .Gt (.int i) (.int j) = some (decide (j < i)) := rfl
theorem ge_e (i j : Int) : dCmp .GtE (.int i) (.int j) = some (decide (j ≤ i)) := rfl
theorem eq_e (i j : Int) : dCmp .Eq (.int i) (.int j) = some (decide (i = j)) := dEq_int i j
theorem ne_e (i j : Int) : dCmp .NotEq (.int i) (.int j) = some (!decide (i = j)) := by
  show (dEq (D.int i) (D.int j)).map _ = _
  rw [dEq_int]
  rfl
theorem e_nd {k : Nk} {es : List VE} {t : Tau} {os : List O} (h : vAll es t = some os) (hl : os.length ≤ big) : vNd k es t = some (.nd k os) := by
  unfold vNd
  rw [h, ob, if_pos hl]
theorem e_unp {is : List Nat} {e : VE} {t t' : Tau} {d : D} (h : e t = some (.val d)) (hg : gT is d t = some t') : sUnp is e t = some (.nx t') := by
  unfold sUnp
  rw [h, ob]
  show (gT is d t).map _ = _
  rw [hg]
  rfl
end Den

/-! M0: sums of products, tables, steps (plain). -/
namespace Mt
def itr {α : Type} (f : α → α) : Nat → α → α
  | 0, s => s
  | n + 1, s => itr f n (f s)
theorem itr_add {α : Type} (f : α → α) (a b : Nat) (s : α) : itr f (a + b) s = itr f a (itr f b s) := by
  induction b generalizing s with
  | zero => rfl
  | succ b ih => exact ih (f s)
theorem itr_succ {α : Type} (f : α → α) (n : Nat) (s : α) : itr f (n + 1) s = f (itr f n s) := by
  rw [Nat.add_comm, itr_add]
  rfl
theorem itr_mul {α : Type} (f : α → α) (a b : Nat) (s : α) : itr (itr f a) b s = itr f (a * b) s := by
  induction b generalizing s with
  | zero => rfl
  | succ b ih => rw [itr, ih, Nat.mul_succ, itr_add]
def dot (a b : List Int) : Int := ((a.zip b).map fun p => p.1 * p.2).sum
theorem dot_nil (b : List Int) : dot [] b = 0 := rfl
theorem dot_nil' (a : List Int) : dot a [] = 0 := by cases a <;> rfl
theorem dot_cons (x y : Int) (a b : List Int) : dot (x :: a) (y :: b) = x * y + dot a b := rfl
theorem dot_comm : ∀ a b : List Int, dot a b = dot b a
  | [], b => by rw [dot_nil, dot_nil']
  | _ :: _, [] => by rw [dot_nil, dot_nil']
  | x :: a, y :: b => by rw [dot_cons, dot_cons, dot_comm a b, Int.mul_comm]
theorem dot_add {α : Type} (f g : α → Int) : ∀ (xs : List α) (s : List Int), dot (xs.map fun j => f j + g j) s = dot (xs.map f) s + dot (xs.map g) s
  | [], s => rfl
  | x :: xs, [] => by rw [dot_nil', dot_nil', dot_nil']; rfl
  | x :: xs, y :: s => by
    rw [List.map_cons, List.map_cons, List.map_cons, dot_cons, dot_cons, dot_cons, dot_add f g xs s, Int.add_mul]
    omega
theorem dot_smul {α : Type} (c : Int) (f : α → Int) : ∀ (xs : List α) (s : List Int), dot (xs.map fun j => c * f j) s = c * dot (xs.map f) s
  | [], s => by rw [List.map_nil, List.map_nil, dot_nil, Int.mul_zero]
  | x :: xs, [] => by rw [dot_nil', dot_nil', Int.mul_zero]
  | x :: xs, y :: s => by
    rw [List.map_cons, List.map_cons, dot_cons, dot_cons, dot_smul c f xs s, Int.mul_add, Int.mul_assoc]
theorem dot_zero {α : Type} : ∀ (xs : List α) (s : List Int), dot (xs.map fun _ => (0 : Int)) s = 0
  | [], s => rfl
  | x :: xs, [] => by rw [dot_nil']
  | x :: xs, y :: s => by rw [List.map_cons, dot_cons, dot_zero xs s, Int.zero_mul]; rfl
theorem dot_mod (m : Int) : ∀ (v s : List Int), dot (v.map (· % m)) s % m = dot v s % m
  | [], s => rfl
  | x :: v, [] => by rw [dot_nil', dot_nil']
  | x :: v, y :: s => by
    rw [List.map_cons, dot_cons, dot_cons, Int.add_emod, dot_mod m v s, Int.mul_emod, Int.emod_emod_of_dvd _ (Int.dvd_refl m), ← Int.mul_emod, ← Int.add_emod]
theorem dot_mod' (m : Int) (v s : List Int) : dot v (s.map (· % m)) % m = dot v s % m := by
  rw [dot_comm, dot_mod, dot_comm]
theorem range_getD (b : List Int) : (List.range b.length).map (fun j => b.getD j 0) = b := by
  apply List.ext_getElem
  · simp
  · intro i h1 h2
    simp at h1
    simp [h1]
/-- a table's column -/
def col (B : List (List Int)) (j : Nat) : List Int := B.map fun r => r.getD j 0
/-- a row times a table, on a state -/
theorem dot_rows (s : List Int) {n : Nat} : ∀ (row : List Int) (B : List (List Int)), (∀ r ∈ B, r.length = n) → dot ((List.range n).map fun j => dot row (col B j)) s = dot row (B.map fun r => dot r s)
  | [], B, h => by
    rw [dot_nil]
    exact dot_zero _ _
  | x :: row, [], h => by
    rw [List.map_nil, dot_nil']
    show dot ((List.range n).map fun j => dot (x :: row) []) s = 0
    have : (fun (_ : Nat) => dot (x :: row) []) = fun _ => 0 := rfl
    exact dot_zero _ _
  | x :: row, b :: B, h => by
    have hb := h b List.mem_cons_self
    have e : (fun j => dot (x :: row) (col (b :: B) j)) = fun j => x * b.getD j 0 + dot row (col B j) := rfl
    rw [e, dot_add (fun j => x * b.getD j 0), dot_smul, dot_rows s row B fun r hr => h r (List.mem_cons_of_mem _ hr), List.map_cons, dot_cons]
    subst hb
    rw [range_getD]
def act (m : Int) (T : List (List Int)) (s : List Int) : List Int := T.map fun r => dot r s % m
def prod (m : Int) (A B : List (List Int)) : List (List Int) := A.map fun row => (List.range B.length).map fun j => dot row (col B j) % m
theorem act_prod (m : Int) (A B : List (List Int)) (s : List Int) (hB : ∀ r ∈ B, r.length = B.length) : act m (prod m A B) s = act m A (act m B s) := by
  unfold act prod
  rw [List.map_map]
  apply List.map_congr_left
  intro row _
  show dot ((List.range B.length).map fun j => dot row (col B j) % m) s % m = _
  have e : ((List.range B.length).map fun j => dot row (col B j) % m) = ((List.range B.length).map fun j => dot row (col B j)).map (· % m) := by
    rw [List.map_map]
    rfl
  rw [e, dot_mod, dot_rows s row B hB]
  have e2 : (B.map fun r => dot r s % m) = (B.map fun r => dot r s).map (· % m) := by
    rw [List.map_map]
    rfl
  rw [e2, dot_mod']
theorem act_length (m : Int) (T : List (List Int)) (s : List Int) : (act m T s).length = T.length := List.length_map ..
/-- square tables of numbers of the modulus -/
structure Sq (m : Int) (n : Nat) (T : List (List Int)) : Prop where
  len : T.length = n
  row : ∀ r ∈ T, r.length = n
  rng : ∀ r ∈ T, ∀ x ∈ r, 0 ≤ x ∧ x < m
structure Ok (m : Int) (n : Nat) (s : List Int) : Prop where
  len : s.length = n
  rng : ∀ x ∈ s, 0 ≤ x ∧ x < m
theorem sq_prod {m : Int} {n : Nat} {A B : List (List Int)} (hm : 0 < m) (hA : A.length = n) (hB : B.length = n) : Sq m n (prod m A B) := by
  refine ⟨by unfold prod; rw [List.length_map, hA], fun r hr => ?_, fun r hr x hx => ?_⟩
  · obtain ⟨a, _, rfl⟩ := List.mem_map.mp hr
    rw [List.length_map, List.length_range, hB]
  · obtain ⟨a, _, rfl⟩ := List.mem_map.mp hr
    obtain ⟨j, _, rfl⟩ := List.mem_map.mp hx
    exact ⟨Int.emod_nonneg _ (by omega), Int.emod_lt_of_pos _ hm⟩
theorem ok_act {m : Int} {n : Nat} {T : List (List Int)} {s : List Int} (hm : 0 < m) (hT : T.length = n) : Ok m n (act m T s) := by
  refine ⟨by rw [act_length, hT], fun x hx => ?_⟩
  obtain ⟨r, _, rfl⟩ := List.mem_map.mp hx
  exact ⟨Int.emod_nonneg _ (by omega), Int.emod_lt_of_pos _ hm⟩
/-! ### steps -/
def stp (m : Int) (ws s : List Int) : List Int := s.drop 1 ++ [dot ws s % m]
def tbl (m : Int) (ws : List Int) : List (List Int) := ((List.range (ws.length - 1)).map fun (row : Nat) => (List.range ws.length).map fun (at' : Nat) => (if at' = row + 1 then (1 : Int) else 0) % m) ++ [ws]
theorem dot_unit (c : Int) (k : Nat) : ∀ (s : List Int) (o : Nat), o ≤ k → dot ((List.range' o s.length).map fun at' => if at' = k then c else 0) s = c * s.getD (k - o) 0
  | [], o, h => by
    rw [dot_nil']
    simp
  | y :: s, o, h => by
    rw [List.length_cons, List.range'_succ, List.map_cons, dot_cons]
    by_cases e : o = k
    · subst e
      rw [if_pos rfl, Nat.sub_self]
      have z : dot ((List.range' (o + 1) s.length).map fun at' => if at' = o then c else 0) s = 0 := by
        have e2 : ((List.range' (o + 1) s.length).map fun at' => if at' = o then c else (0 : Int)) = (List.range' (o + 1) s.length).map fun _ => 0 := by
          apply List.map_congr_left
          intro a ha
          have := (List.mem_range'_1.mp ha).1
          rw [if_neg (by omega)]
        rw [e2, dot_zero]
      rw [z]
      simp
    · rw [if_neg e, Int.zero_mul, Int.zero_add, dot_unit c k s (o + 1) (by omega)]
      have e2 : k - o = (k - (o + 1)) + 1 := by omega
      rw [e2, List.getD_cons_succ]
theorem act_tbl {m : Int} {ws s : List Int} (hm : 0 < m) (hn : 0 < ws.length) (hs : Ok m ws.length s) : act m (tbl m ws) s = stp m ws s := by
  unfold act tbl stp
  rw [List.map_append]
  congr 1
  rw [List.map_map]
  apply List.ext_getElem
  · rw [List.length_map, List.length_range, List.length_drop, hs.len]
  · intro i h1 h2
    rw [List.length_map, List.length_range] at h1
    rw [List.getElem_map, List.getElem_range, List.getElem_drop]
    show dot ((List.range ws.length).map fun at' => (if at' = i + 1 then (1 : Int) else 0) % m) s % m = _
    have e : ((List.range ws.length).map fun at' => (if at' = i + 1 then (1 : Int) else 0) % m) = ((List.range' 0 s.length).map fun at' => if at' = i + 1 then (1 : Int) else 0).map (· % m) := by
      rw [List.map_map, hs.len, List.range_eq_range']
      rfl
    rw [e, dot_mod, dot_unit 1 (i + 1) s 0 (by omega), Int.one_mul]
    have hi : i + 1 < s.length := by rw [hs.len]; omega
    have e3 : s.getD (i + 1 - 0) 0 = s[1 + i]'(by omega) := by
      rw [List.getD_eq_getElem?_getD, show i + 1 - 0 = 1 + i by omega, List.getElem?_eq_getElem (by omega)]
      rfl
    rw [e3]
    have q := hs.rng _ (List.getElem_mem (l := s) (n := 1 + i) (by omega))
    exact Int.emod_eq_of_lt q.1 q.2
theorem sq_tbl {m : Int} {ws : List Int} (hm : 0 < m) (hn : 0 < ws.length) (hw : ∀ x ∈ ws, 0 ≤ x ∧ x < m) : Sq m ws.length (tbl m ws) := by
  refine ⟨?_, fun r hr => ?_, fun r hr x hx => ?_⟩
  · unfold tbl
    rw [List.length_append, List.length_map, List.length_range, List.length_singleton]
    omega
  · rcases List.mem_append.mp hr with h | h
    · obtain ⟨i, _, rfl⟩ := List.mem_map.mp h
      rw [List.length_map, List.length_range]
    · rw [List.mem_singleton.mp h]
  · rcases List.mem_append.mp hr with h | h
    · obtain ⟨i, _, rfl⟩ := List.mem_map.mp h
      obtain ⟨j, _, rfl⟩ := List.mem_map.mp hx
      exact ⟨Int.emod_nonneg _ (by omega), Int.emod_lt_of_pos _ hm⟩
    · rw [List.mem_singleton.mp h] at hx
      exact hw x hx
theorem ok_stp {m : Int} {ws s : List Int} {n : Nat} (hm : 0 < m) (hn : 0 < n) (hs : Ok m n s) : Ok m n (stp m ws s) := by
  refine ⟨?_, fun x hx => ?_⟩
  · unfold stp
    rw [List.length_append, List.length_drop, hs.len, List.length_singleton]
    omega
  · rcases List.mem_append.mp hx with h | h
    · exact hs.rng x (List.mem_of_mem_drop h)
    · rw [List.mem_singleton.mp h]
      exact ⟨Int.emod_nonneg _ (by omega), Int.emod_lt_of_pos _ hm⟩
theorem ok_itr {m : Int} {ws s : List Int} {n : Nat} (hm : 0 < m) (hn : 0 < n) (hs : Ok m n s) (k : Nat) : Ok m n (itr (stp m ws) k s) := by
  induction k generalizing s with
  | zero => exact hs
  | succ k ih => exact ih (ok_stp hm hn hs)
/-- a table squared again and again -/
def lad (m : Int) (T : List (List Int)) : Nat → List (List Int)
  | 0 => T
  | i + 1 => prod m (lad m T i) (lad m T i)
theorem sq_lad {m : Int} {n : Nat} {T : List (List Int)} (hm : 0 < m) (h : Sq m n T) : ∀ i, Sq m n (lad m T i)
  | 0 => h
  | i + 1 => sq_prod hm (sq_lad hm h i).len (sq_lad hm h i).len
theorem act_lad {m : Int} {n : Nat} {T : List (List Int)} {f : List Int → List Int} (hm : 0 < m) (h : Sq m n T) (hf : ∀ s, Ok m n s → act m T s = f s) (hk : ∀ s, Ok m n s → Ok m n (f s)) : ∀ (i : Nat) (s : List Int), Ok m n s → act m (lad m T i) s = itr f (2 ^ i) s
  | 0, s, hs => hf s hs
  | i + 1, s, hs => by
    have q := sq_lad hm h i
    show act m (prod m (lad m T i) (lad m T i)) s = _
    rw [act_prod m _ _ s fun r hr => by rw [q.len]; exact q.row r hr]
    rw [act_lad hm h hf hk i s hs]
    have ok2 : ∀ (k : Nat) s, Ok m n s → Ok m n (itr f k s) := by
      intro k
      induction k with
      | zero => exact fun s hs => hs
      | succ k ih => exact fun s hs => ih _ (hk s hs)
    rw [act_lad hm h hf hk i _ (ok2 _ s hs), ← itr_add, Nat.pow_succ]
    congr 1
    omega
/-- led_on's way along a ladder -/
def ledOn (m : Int) : List (List (List Int)) → List Int → Nat → List Int
  | [], s, _ => s
  | T :: Ts, s, k => ledOn m Ts (if k % 2 = 1 then act m T s else s) (k / 2)
theorem ledOn_lad {m : Int} {n : Nat} {T : List (List Int)} {f : List Int → List Int} (hm : 0 < m) (h : Sq m n T) (hf : ∀ s, Ok m n s → act m T s = f s) (hk : ∀ s, Ok m n s → Ok m n (f s)) :
    ∀ (L i : Nat) (s : List Int) (k : Nat), Ok m n s → k < 2 ^ L → ledOn m ((List.range' i L).map (lad m T)) s k = itr f (2 ^ i * k) s
  | 0, i, s, k, hs, hl => by
    have : k = 0 := by simpa using hl
    subst this
    rfl
  | L + 1, i, s, k, hs, hl => by
    have ok2 : ∀ (k : Nat) s, Ok m n s → Ok m n (itr f k s) := by
      intro k
      induction k with
      | zero => exact fun s hs => hs
      | succ k ih => exact fun s hs => ih _ (hk s hs)
    rw [List.range'_succ, List.map_cons]
    unfold ledOn
    have hl2 : k / 2 < 2 ^ L := by
      rw [Nat.pow_succ] at hl
      omega
    by_cases hb : k % 2 = 1
    · rw [if_pos hb, act_lad hm h hf hk i s hs, ledOn_lad hm h hf hk L (i + 1) _ _ (ok2 _ s hs) hl2, ← itr_add]
      congr 1
      have e : k = 2 * (k / 2) + 1 := by omega
      rw [Nat.pow_succ]
      calc 2 ^ i * 2 * (k / 2) + 2 ^ i = 2 ^ i * (2 * (k / 2) + 1) := by rw [Nat.mul_add, Nat.mul_one, Nat.mul_assoc]
        _ = 2 ^ i * k := by rw [← e]
    · rw [if_neg hb, ledOn_lad hm h hf hk L (i + 1) _ _ hs hl2]
      congr 1
      have e : k = 2 * (k / 2) := by omega
      rw [Nat.pow_succ]
      calc 2 ^ i * 2 * (k / 2) = 2 ^ i * (2 * (k / 2)) := by rw [Nat.mul_assoc]
        _ = 2 ^ i * k := by rw [← e]
end Mt

/-! PW: numbers and wheels, def by def. -/
namespace Den
open PySem L2 Mt
abbrev D.mat (M : List (List Int)) : D := .nd .lst (M.map D.ints)
abbrev D.wheel (m : Int) (ws : List Int) : D := .nd .tup [.int m, .ints ws]
abbrev O.mat (M : List (List Int)) : O := .nd .lst (M.map fun r => .val (D.ints r))
local macro_rules | `(tactic| walk_at "den") => `(tactic| (all_goals (try simp only [fnOf, sSeq, sFz, sAsg, sPar, sUnp, sDrop, sRet, sRetN, sIf, sNext, sNever, sPut, sApp, sMod, modAt, mApp, mPut, fzAt, fzAll, vAll, setAll, gN, gT, gSet, wipeT, vOf, bFz, vC, v1, v2, vBin, vNeg, vCmp, vChain, vAnd, vOr, vNot, bT, bAnd, bOr, bNot, vIf, bIx, dIx, O.isDict, vSl, opI, vNd, vCall, aAll, aPl, aNp, aMv, wSeq, wRange1, wRange2, wRange3, wZip, wEnum, bVar, bYes, dBin, dSub, dMod, dFdiv, dPow, dShl, dShr, i2, dNeg, dCmp, c2, dIs, dInt, dAbs, dMax, dMin, O.child, O.fz, O.toD, O.toDs, O.isVal, O.int?, O.bl?, O.v?, O.allFlat, O.allFlats, ob, om, Option.map_some, Option.bind_some, Option.map_none, Option.bind_none, Option.join_some, Option.join_none, List.length_cons, List.length_nil, List.map_cons, List.map_nil, List.replicate, List.cons_append, List.nil_append, List.getElem?_cons_zero, List.getElem?_cons_succ, List.set_cons_zero, List.set_cons_succ, if_true, if_false, Bool.false_eq_true, reduceIte, Nat.reduceAdd, Nat.reduceSub, Nat.reduceEqDiff, Bool.not_true, Bool.not_false, Bool.and_true, Bool.true_and, Bool.and_false, Bool.false_and, List.all_cons, List.all_nil, true_or, or_true, true_and, and_true, O.ty, dIsB, dAll, dAny, dSum, dLen, dList, dTuple, O.top, O.vals?, dSl, dAdd, dMul, ints?_map, ints?_map', bls?_map, bls?_map', toDs_map', vals_map', toDs_ints, vals_map, toDs_vals, List.length_map, dEq_int, dEq_ints, dEq_bl, cut_map, decide_true, decide_false, decide_eq_true_eq, Bool.not_eq_true', kit_ii, kit_ib, kit_ll, kit_tt, allFlats_ints, vals_mapI, Int.cast_ofNat_Int, Int.reduceAdd, Int.reduceSub, Int.reduceMul, Int.reduceNeg, Int.reduceLT, Int.reduceLE, Int.reduceEq, Int.reduceMod, Int.reduceDiv, Int.reducePow, Int.reduceToNat, Nat.reduceMul, Nat.reducePow, Nat.reduceLeDiff, Nat.reduceLT, decide_not, Int.ofNat_one, Int.ofNat_zero, ne_eq, not_true, not_false_iff, Int.reduceNe])))
theorem atI0 {α : Type} (x : α) (r : List α) : atI (x :: r) 0 = some x := atI_nat (j := 0) rfl
theorem atI1 {α : Type} (x y : α) (r : List α) : atI (x :: y :: r) 1 = some y := atI_nat (j := 1) rfl
theorem atI_last' {α : Type} (xs : List α) (h : xs ≠ []) : atI xs (-1) = some (xs.getLast h) := by
  have := atI_last (xs.dropLast) (xs.getLast h)
  rw [List.dropLast_concat_getLast] at this
  exact this
/-- small factors may be multiplied -/
theorem mul_ok {i j : Int} (hi : i.natAbs < 2 ^ 1000) (hj : j.natAbs < 2 ^ 1000) : i.natAbs.log2 + j.natAbs.log2 < 1000000 := by
  have h1 : i.natAbs.log2 < 1000 := PySem.Flt.log2_lt_of (by decide) hi
  have h2 : j.natAbs.log2 < 1000 := PySem.Flt.log2_lt_of (by decide) hj
  omega
theorem abs_small {i : Int} {m : Int} (h : 0 ≤ i ∧ i < m) (hm : m ≤ 1000000) : i.natAbs < 2 ^ 1000 := Nat.lt_of_lt_of_le (show i.natAbs < 2 ^ 20 by omega) (Nat.pow_le_pow_right (by omega) (by omega))
noncomputable def B_is_whole : SE := (sSeq (sRet (vOf (vAnd (bFz (v1 (dIsB "int") (bVar 0))) (bFz (vNot (bFz (v1 (dIsB "bool") (bVar 0)))))))) sNext)
noncomputable def F_is_whole : Fn := fnOf 1 1 B_is_whole
noncomputable def B_are_numbers : SE := (sSeq (sRet (vOf (vAnd (bFz (v1 (dIsB "list") (bVar 0))) (bFz (v1 dAll (bFz (vLc (wSeq (bVar 0)) [2] (gN 2) bYes (vOf (vAnd (bFz (vCall F_is_whole [(aPl (bVar 2))])) (bFz (vChain .LtE .Lt (bFz (vC (.int 0))) (bVar 2) (bVar 1)))))))))))) sNext)
noncomputable def F_are_numbers : Fn := fnOf 2 3 B_are_numbers
noncomputable def B_check_wheel : SE := (sSeq (sIf (bOr (bNot (bT (bFz (v1 (dIsB "tuple") (bVar 0))))) (bOr (bT (vCmp .NotEq (bFz (v1 dLen (bVar 0))) (bFz (vC (.int 2))))) (bOr (bNot (bT (bFz (vCall F_is_whole [(aPl (bIx (bVar 0) (bFz (vC (.int 0)))))])))) (bNot (bT (vChain .LtE .LtE (bFz (vC (.int 1))) (bIx (bVar 0) (bFz (vC (.int 0)))) (vC (.int 1000)))))))) (sSeq sNever sNext) sNext) (sSeq (sIf (bOr (bNot (bT (bFz (vCall F_are_numbers [(aPl (bIx (bVar 0) (bFz (vC (.int 1))))), (aPl (bIx (bVar 0) (bFz (vC (.int 0)))))])))) (bNot (bT (vChain .LtE .LtE (bFz (vC (.int 1))) (bFz (v1 dLen (bIx (bVar 0) (bFz (vC (.int 1)))))) (vC (.int 4)))))) (sSeq sNever sNext) sNext) sNext))
noncomputable def F_check_wheel : Fn := fnOf 1 1 B_check_wheel
noncomputable def B_check_beginning : SE := (sSeq (sIf (bOr (bNot (bT (bFz (vCall F_are_numbers [(aPl (bVar 1)), (aPl (bIx (bVar 0) (bFz (vC (.int 0)))))])))) (bT (vCmp .NotEq (bFz (v1 dLen (bVar 1))) (bFz (v1 dLen (bIx (bVar 0) (bFz (vC (.int 1))))))))) (sSeq sNever sNext) sNext) sNext)
noncomputable def F_check_beginning : Fn := fnOf 2 2 B_check_beginning
noncomputable def W_common_1 : BE := (bT (vCmp .Gt (bVar 1) (bFz (vC (.int 0)))))
noncomputable def W_common_2 : SE := (sSeq (sFz [1] (sPar [0, 1] [(vOf (bVar 1)), (vBin .Mod (bVar 0) (bVar 1))])) sNext)
noncomputable def B_common : SE := (sSeq (sWhile W_common_1 W_common_2) (sSeq (sRetN 0) sNext))
noncomputable def F_common : Fn := fnOf 2 2 B_common
noncomputable def B_goes_back : SE := (sSeq (sRet (vCmp .Eq (bFz (vCall F_common [(aPl (bIx (bVar 0) (bFz (vC (.int 0))))), (aPl (bIx (bIx (bVar 0) (bFz (vC (.int 1)))) (bFz (vC (.int 0)))))])) (bFz (vC (.int 1))))) sNext)
noncomputable def F_goes_back : Fn := fnOf 1 1 B_goes_back
noncomputable def B_check_place : SE := (sSeq (sIf (bNot (bT (bFz (vCall F_is_whole [(aPl (bVar 1))])))) (sSeq sNever sNext) sNext) (sSeq (sIf (bAnd (bT (vCmp .Lt (bVar 1) (bFz (vC (.int 0))))) (bNot (bT (bFz (vCall F_goes_back [(aPl (bVar 0))]))))) (sSeq sNever sNext) sNext) sNext))
noncomputable def F_check_place : Fn := fnOf 2 2 B_check_place
noncomputable def W_inverse_1 : BE := (bT (vCmp .Gt (bVar 3) (bFz (vC (.int 0)))))
noncomputable def W_inverse_2 : SE := (sSeq (sAsg 6 (vBin .FloorDiv (bVar 2) (bVar 3))) (sSeq (sFz [3] (sPar [2, 3] [(vOf (bVar 3)), (vBin .Sub (bVar 2) (bFz (vBin .Mult (bVar 6) (bVar 3))))])) (sSeq (sFz [5] (sPar [4, 5] [(vOf (bVar 5)), (vBin .Sub (bVar 4) (bFz (vBin .Mult (bVar 6) (bVar 5))))])) sNext)))
noncomputable def B_inverse : SE := (sSeq (sFz [1] (sPar [2, 3, 4, 5] [(vOf (bVar 1)), (vBin .Mod (bVar 0) (bVar 1)), (vC (.int 0)), (vC (.int 1))])) (sSeq (sWhile W_inverse_1 W_inverse_2) (sSeq (sRet (vBin .Mod (bVar 4) (bVar 1))) sNext)))
noncomputable def F_inverse : Fn := fnOf 2 7 B_inverse
noncomputable def B_undoing : SE := (sSeq (sFz [0] (sUnp [1, 2] (bVar 0))) (sSeq (sPar [3, 4] [(v1 dLen (bVar 2)), (vCall F_inverse [(aPl (bIx (bVar 2) (bFz (vC (.int 0))))), (aPl (bVar 1))])]) (sSeq (sAsg 5 (vBin .Add (bFz (vLc (wSeq (bFz (vSl (bVar 2) (some (bFz (vC (.int 1)))) none))) [6] (gN 6) bYes (vBin .Mod (bFz (vBin .Mult (bFz (vNeg (bVar 4))) (bVar 6))) (bVar 1)))) (bFz (vNd .lst [(vBin .Mod (bVar 4) (bVar 1))])))) (sSeq (sRet (vBin .Add (bFz (vNd .lst [(vOf (bVar 5))])) (bFz (vLc (wRange1 (bFz (vBin .Sub (bVar 3) (bFz (vC (.int 1)))))) [7] (gN 7) bYes (vLc (wRange1 (bVar 3)) [8] (gN 8) bYes (vBin .Mod (bFz (v1 dInt (bFz (vCmp .Eq (bVar 8) (bVar 7))))) (bVar 1))))))) sNext))))
noncomputable def F_undoing : Fn := fnOf 1 9 B_undoing
noncomputable def B_table_of : SE := (sSeq (sAsg 1 (v1 dLen (bIx (bVar 0) (bFz (vC (.int 1)))))) (sSeq (sFz [1] (sAsg 2 (vLc (wRange1 (bFz (vBin .Sub (bVar 1) (bFz (vC (.int 1)))))) [3] (gN 3) bYes (vLc (wRange1 (bVar 1)) [4] (gN 4) bYes (vBin .Mod (bFz (v1 dInt (bFz (vCmp .Eq (bVar 4) (bFz (vBin .Add (bVar 3) (bFz (vC (.int 1))))))))) (bIx (bVar 0) (bFz (vC (.int 0))))))))) (sSeq (sRet (vBin .Add (bVar 2) (bFz (vNd .lst [(v1 dList (bIx (bVar 0) (bFz (vC (.int 1)))))])))) sNext)))
noncomputable def F_table_of : Fn := fnOf 1 5 B_table_of
noncomputable def B_led : SE := (sSeq (sRet (vLc (wSeq (bVar 1)) [3] (gN 3) bYes (vBin .Mod (bFz (v1 dSum (bFz (vLc (wZip (bVar 3) (bVar 2)) [4, 5] (gT [4, 5]) bYes (vBin .Mult (bVar 4) (bVar 5)))))) (bVar 0)))) sNext)
noncomputable def F_led : Fn := fnOf 3 6 B_led
noncomputable def B_led_on : SE := (sSeq (sFz [1] (sFor (wSeq (bVar 1)) (gN 4) (sSeq (sIf (bT (vCmp .Eq (bFz (vBin .Mod (bVar 3) (bFz (vC (.int 2))))) (bFz (vC (.int 1))))) (sSeq (sAsg 2 (vCall F_led [(aPl (bVar 0)), (aPl (bVar 4)), (aPl (bVar 2))])) sNext) sNext) (sSeq (sAsg 3 (vBin .FloorDiv (bVar 3) (bFz (vC (.int 2))))) sNext)))) (sSeq (sRetN 2) sNext))
noncomputable def F_led_on : Fn := fnOf 4 5 B_led_on
noncomputable def B_product : SE := (sSeq (sFz [2] (sAsg 3 (vLc (wRange1 (bFz (v1 dLen (bVar 2)))) [4] (gN 4) bYes (vLc (wSeq (bVar 2)) [5] (gN 5) bYes (vOf (bIx (bVar 5) (bVar 4))))))) (sSeq (sRet (vLc (wSeq (bVar 1)) [5] (gN 5) bYes (vLc (wSeq (bVar 3)) [6] (gN 6) bYes (vBin .Mod (bFz (v1 dSum (bFz (vLc (wZip (bVar 5) (bVar 6)) [7, 8] (gT [7, 8]) bYes (vBin .Mult (bVar 7) (bVar 8)))))) (bVar 0))))) sNext))
noncomputable def F_product : Fn := fnOf 3 9 B_product
noncomputable def B_ladder_of : SE := (sSeq (sFz [1] (sAsg 3 (vNd .lst [(vOf (bVar 1))]))) (sSeq (sWhile (bT (vCmp .LtE (bFz (vBin .LShift (bFz (vC (.int 1))) (bFz (v1 dLen (bVar 3))))) (bVar 2))) (sSeq (sApp 3 [] (vCall F_product [(aPl (bVar 0)), (aPl (bIx (bVar 3) (bFz (vNeg (bFz (vC (.int 1))))))), (aPl (bIx (bVar 3) (bFz (vNeg (bFz (vC (.int 1)))))))])) sNext)) (sSeq (sRetN 3) sNext)))
noncomputable def F_ladder_of : Fn := fnOf 3 4 B_ladder_of
noncomputable def B_state_of : SE := (sSeq (sPar [3, 4] [(vIf (bT (vCmp .Lt (bVar 2) (bFz (vC (.int 0))))) (vCall F_undoing [(aPl (bVar 0))]) (vCall F_table_of [(aPl (bVar 0))])), (v1 dAbs (bVar 2))]) (sSeq (sRet (vCall F_led_on [(aPl (bIx (bVar 0) (bFz (vC (.int 0))))), (aNp (vCall F_ladder_of [(aPl (bIx (bVar 0) (bFz (vC (.int 0))))), (aPl (bVar 3)), (aPl (bVar 4))])), (aMv (v1 dList (bVar 1))), (aPl (bVar 4))])) sNext))
noncomputable def F_state_of : Fn := fnOf 3 5 B_state_of
noncomputable def B_state_at : SE := (sSeq (sDrop (vCall F_check_wheel [(aPl (bVar 0))])) (sSeq (sDrop (vCall F_check_beginning [(aPl (bVar 0)), (aPl (bVar 1))])) (sSeq (sDrop (vCall F_check_place [(aPl (bVar 0)), (aPl (bVar 2))])) (sSeq (sRet (vCall F_state_of [(aPl (bVar 0)), (aPl (bVar 1)), (aPl (bVar 2))])) sNext))))
noncomputable def F_state_at : Fn := fnOf 3 3 B_state_at
noncomputable def B_number_at : SE := (sSeq (sRet (vOf (bIx (bFz (vCall F_state_at [(aPl (bVar 0)), (aPl (bVar 1)), (aPl (bVar 2))])) (bFz (vC (.int 0)))))) sNext)
noncomputable def F_number_at : Fn := fnOf 3 3 B_number_at
/-! ### numbers -/
theorem is_whole_int (i : Int) : F_is_whole [.int i] = some (.bl true) := by
  unfold F_is_whole B_is_whole
  walk_at "den"
/-! ### wheels -/
theorem are_numbers_ints (ns : List Int) (m : Int) (hl : ns.length ≤ big) : F_are_numbers [.val (.ints ns), .int m] = some (.bl (ns.all fun x => decide (0 ≤ x) && decide (x < m))) := by
  unfold F_are_numbers B_are_numbers
  walk_at "den"
  rw [vLc_map (xs := ns) (φ := D.int) (ψ := fun x => D.bl (decide (0 ≤ x) && decide (x < m))) rfl hl]
  · walk_at "den"
    rw [List.all_map]
    rfl
  · intro x hx
    walk_at "den"
    simp only [is_whole_int]
    walk_at "den"
    by_cases h : 0 ≤ x
    · simp only [h]
      walk_at "den"
    · simp only [h]
      walk_at "den"
theorem all_rng {ns : List Int} {m : Int} (h : ∀ x ∈ ns, 0 ≤ x ∧ x < m) : (ns.all fun x => decide (0 ≤ x) && decide (x < m)) = true := by
  rw [List.all_eq_true]
  intro x hx
  simp [h x hx]
structure Wh (m : Int) (ws : List Int) : Prop where
  lo : 1 ≤ m
  hi : m ≤ 1000
  rng : ∀ x ∈ ws, 0 ≤ x ∧ x < m
  len : 1 ≤ ws.length
  most : ws.length ≤ 4
theorem check_wheel_ok {m : Int} {ws : List Int} (h : Wh m ws) : F_check_wheel [.val (.wheel m ws)] = some .non := by
  have h1 := h.lo
  have h2 := h.hi
  have h3 : ws.length ≤ big := Nat.le_trans h.most (by decide)
  have h4 : (1 : Int) ≤ (ws.length : Int) := by have := h.len; omega
  have h5 : (ws.length : Int) ≤ 4 := by have := h.most; omega
  refine fn_nx rfl (seq_go (if_f ?_ rfl) (seq_go (if_f ?_ rfl) rfl))
  · walk_at "den"
    simp only [atI0, atI1]
    walk_at "den"
    simp only [is_whole_int, h1, h2]
    walk_at "den"
  · walk_at "den"
    simp only [atI0, atI1]
    walk_at "den"
    simp only [are_numbers_ints ws m h3, all_rng h.rng, h4, h5]
    walk_at "den"
theorem check_beginning_ok {m : Int} {ws b : List Int} (h : Wh m ws) (hb : Ok m ws.length b) : F_check_beginning [.val (.wheel m ws), .val (.ints b)] = some .non := by
  have h3 : b.length ≤ big := by rw [hb.len]; exact Nat.le_trans h.most (by decide)
  unfold F_check_beginning B_check_beginning
  walk_at "den"
  simp only [atI0, atI1]
  walk_at "den"
  simp only [are_numbers_ints b m h3, all_rng hb.rng, hb.len]
  walk_at "den"
theorem check_place_ok {m : Int} {ws : List Int} {p : Int} (hp : 0 ≤ p) : F_check_place [.val (.wheel m ws), .int p] = some .non := by
  have h : ¬ p < 0 := by omega
  unfold F_check_place B_check_place
  walk_at "den"
  simp only [is_whole_int]
  walk_at "den"
  simp only [h]
  walk_at "den"
theorem zip_ints (r s : List Int) : ((r.map D.int).zip (s.map D.int)).map (fun p => D.nd .tup [p.1, p.2]) = (r.zip s).map fun p => D.nd .tup [D.int p.1, D.int p.2] := by
  rw [List.zip_map, List.map_map]
  rfl
/-- a sum of products as the text makes it -/
theorem vdot {r s : List Int} {t : Tau} {i j k l : Nat} (h1 : bVar i t = some (.val (.ints r))) (h2 : bVar j t = some (.val (.ints s))) (hk : k < t.length) (hl : l < t.length) (hkl : k ≠ l) (hr : r.length ≤ big) (hb : ∀ p ∈ r.zip s, p.1.natAbs.log2 + p.2.natAbs.log2 < 1000000) :
    v1 dSum (bFz (vLc (wZip (bVar i) (bVar j)) [k, l] (gT [k, l]) bYes (vBin .Mult (bVar k) (bVar l)))) t = some (.int (dot r s)) := by
  have e : vLc (wZip (bVar i) (bVar j)) [k, l] (gT [k, l]) bYes (vBin .Mult (bVar k) (bVar l)) t = some (.nd .lst ((r.zip s).map fun p => .val (D.int (p.1 * p.2)))) := by
    refine vLc_map (xs := r.zip s) (φ := fun p => D.nd .tup [D.int p.1, D.int p.2]) ?_ ?_ fun p hp => ?_
    · unfold wZip
      rw [h1, ob, h2, ob]
      exact congrArg some (zip_ints r s)
    · rw [List.length_zip]
      exact Nat.le_trans (Nat.min_le_left _ _) hr
    · have wl : (wipeT t [k, l]).length = t.length := by
        show (((wipeT t []).set l none).set k none).length = t.length
        rw [List.length_set, List.length_set]
        rfl
      generalize wipeT t [k, l] = t0 at wl
      unfold gT
      simp only [gSet, ob]
      unfold vBin v2 bVar
      rw [List.getElem?_set_ne (Ne.symm hkl), List.getElem?_set_self (by rw [wl]; exact hk), List.getElem?_set_self (by rw [List.length_set, wl]; exact hl)]
      exact map_toD (mul_e (hb p hp))
  unfold v1 bFz
  rw [e]
  walk_at "den"
  rfl
theorem rng_ok {r s : List Int} {m : Int} (hm : m ≤ 1000000) (h1 : ∀ x ∈ r, 0 ≤ x ∧ x < m) (h2 : ∀ x ∈ s, 0 ≤ x ∧ x < m) : ∀ p ∈ r.zip s, p.1.natAbs.log2 + p.2.natAbs.log2 < 1000000 := fun p hp =>
  mul_ok (abs_small (h1 _ (List.of_mem_zip hp).1) hm) (abs_small (h2 _ (List.of_mem_zip hp).2) hm)
theorem led_ok {m : Int} {n : Nat} {T : List (List Int)} {s : List Int} (h0 : 0 < m) (hm : m ≤ 1000) (hn : n ≤ 4) (hT : Sq m n T) (hs : Ok m n s) : F_led [.int m, .val (.mat T), .val (.ints s)] = some (.ints (act m T s)) := by
  refine fn_rt rfl (seq_rt ?_)
  walk_at "den"
  rw [vLc_map (xs := T) (φ := D.ints) (ψ := fun r => D.int (dot r s % m)) rfl (by rw [hT.len]; exact Nat.le_trans hn (by decide))]
  · show some (Out.rt (.nd .lst (T.map fun x => O.int (dot x s % m)))) = some (Out.rt (.nd .lst ((act m T s).map O.int)))
    unfold act
    rw [List.map_map]
    rfl
  · intro r hr
    have e := vdot (r := r) (s := s) (t := [some (.int m), some (.val (.mat T)), some (.val (.ints s)), some (.val (.ints r)), none, none]) (i := 3) (j := 2) (k := 4) (l := 5) rfl rfl (Nat.lt_of_lt_of_eq (by decide) (show 6 = _ from rfl)) (Nat.lt_of_lt_of_eq (by decide) (show 6 = _ from rfl)) (by decide) (by rw [hT.row r hr]; exact Nat.le_trans hn (by decide))
      (rng_ok (m := m) (by omega) (hT.rng r hr) hs.rng)
    exact map_toD (e_bin (e_fz e) rfl (mod_e h0))
theorem iota_map (n : Nat) : iota 0 n = (List.range n).map fun (i : Nat) => D.int (i : Int) := by
  unfold iota
  apply List.map_congr_left
  intro i _
  rw [Int.zero_add]
theorem wr1 {a : VE} {t : Tau} {n : Nat} (h : a t = some (.int (n : Int))) (hn : n ≤ big) : wRange1 a t = some ((List.range n).map fun (i : Nat) => D.int (i : Int)) := by
  unfold wRange1
  have hb : n ≤ 100000 := hn
  rw [h, ob, show (O.int (n : Int)).int? = some (n : Int) from rfl, ob, if_pos ⟨by omega, by omega⟩, Int.toNat_natCast, iota_map]
theorem child_lst {ds : List D} {j : Nat} {d : D} (h : ds[j]? = some d) : (O.val (.nd .lst ds)).child (j : Int) = some (.val d) := by
  show (atI ds (j : Int)).map O.val = _
  rw [atI_nat h]
  rfl
theorem child_ints {r : List Int} {j : Nat} (h : j < r.length) : (O.val (.ints r)).child (j : Int) = some (.int (r.getD j 0)) := by
  refine child_lst (d := D.int (r.getD j 0)) ?_
  rw [List.getElem?_map, List.getElem?_eq_getElem h, List.getD_eq_getElem?_getD, List.getElem?_eq_getElem h]
  rfl
theorem product_ok {m : Int} {n : Nat} {A B : List (List Int)} (h0 : 0 < m) (hm : m ≤ 1000) (hn : n ≤ 4) (hA : Sq m n A) (hB : Sq m n B) : F_product [.int m, .val (.mat A), .val (.mat B)] = some (.mat (prod m A B)) := by
  have bn : n ≤ big := Nat.le_trans hn (by decide)
  -- the columns
  have e1 : vLc (wRange1 (bFz (v1 dLen (bVar 2)))) [4] (gN 4) bYes (vLc (wSeq (bVar 2)) [5] (gN 5) bYes (vOf (bIx (bVar 5) (bVar 4)))) [some (.int m), some (.val (.mat A)), some (.val (.mat B)), none, none, none, none, none, none] =
      some (.mat ((List.range n).map (col B))) := by
    rw [vLc_map (xs := List.range n) (φ := fun (i : Nat) => D.int (i : Int)) (ψ := fun j => D.ints (col B j)) (wr1 (e_fz (e_v1 (o := .int (n : Int)) rfl (by show some (O.int ((B.map D.ints).length : Int)) = _; rw [List.length_map, hB.len]))) bn) (by rw [List.length_range]; exact bn)]
    · show _ = some (O.nd .lst (((List.range n).map (col B)).map fun r => .val (D.ints r)))
      rw [List.map_map]
      rfl
    · intro j hj
      have hj : j < n := List.mem_range.mp hj
      refine el (o := .nd .lst (B.map fun r => .val (D.int (r.getD j 0)))) rfl (vLc_map (xs := B) (φ := D.ints) (ψ := fun r => D.int (r.getD j 0)) rfl (by rw [hB.len]; exact bn) fun r hr => ?_) |>.trans ?_
      · exact map_toD (e_of (e_ix rfl rfl (child_ints (by rw [hB.row r hr]; exact hj))))
      · show some (D.nd .lst (O.toDs (B.map fun r => .val (D.int (r.getD j 0))))) = _
        rw [toDs_map']
        show some (D.nd .lst (B.map fun r => D.int (r.getD j 0))) = some (D.nd .lst ((B.map fun r => r.getD j 0).map D.int))
        rw [List.map_map]
        rfl
  refine fn_rt rfl (seq_go (t' := [some (.int m), some (.val (.mat A)), some (.val (.mat B)), some (.mat ((List.range n).map (col B))), none, none, none, none, none]) (e_asg e1) (seq_rt (e_ret ?_)))
  have cl : ∀ c ∈ (List.range n).map (col B), c.length = n ∧ ∀ x ∈ c, 0 ≤ x ∧ x < m := by
    intro c hc
    obtain ⟨j, hj, rfl⟩ := List.mem_map.mp hc
    have hj : j < n := List.mem_range.mp hj
    refine ⟨by unfold col; rw [List.length_map, hB.len], fun x hx => ?_⟩
    obtain ⟨r, hr, rfl⟩ := List.mem_map.mp hx
    have hl : j < r.length := by rw [hB.row r hr]; exact hj
    rw [List.getD_eq_getElem?_getD, List.getElem?_eq_getElem hl]
    exact hB.rng r hr _ (List.getElem_mem hl)
  have tm : fzAll [some (O.int m), some (.val (.mat A)), some (.val (.mat B)), some (.mat ((List.range n).map (col B))), none, none, none, none, none] = [some (.int m), some (.val (.mat A)), some (.val (.mat B)), some (.val (.mat ((List.range n).map (col B)))), none, none, none, none, none] := by
    show [_, _, _, some (O.val (.nd .lst (O.toDs (((List.range n).map (col B)).map fun r => .val (D.ints r))))), _, _, _, _, _] = _
    rw [toDs_map']
    rfl
  rw [tm, vLc_map (xs := A) (φ := D.ints) (ψ := fun row => D.ints ((List.range B.length).map fun j => dot row (col B j) % m)) rfl (by rw [hA.len]; exact bn)]
  · show some (O.nd .lst (A.map fun row => .val (D.ints ((List.range B.length).map fun j => dot row (col B j) % m)))) = some (O.nd .lst ((prod m A B).map fun r => .val (D.ints r)))
    unfold prod
    rw [List.map_map]
    rfl
  · intro row hrow
    refine el (o := .nd .lst (((List.range n).map (col B)).map fun c => .val (D.int (dot row c % m)))) rfl (vLc_map (xs := (List.range n).map (col B)) (φ := D.ints) (ψ := fun c => D.int (dot row c % m)) rfl (by rw [List.length_map, List.length_range]; exact bn) fun c hc => ?_) |>.trans ?_
    · have e := vdot (r := row) (s := c) (t := [some (.int m), some (.val (.mat A)), some (.val (.mat B)), some (.val (.mat ((List.range n).map (col B)))), none, some (.val (.ints row)), some (.val (.ints c)), none, none]) (i := 5) (j := 6) (k := 7) (l := 8) rfl rfl (Nat.lt_of_lt_of_eq (by decide) (show 9 = _ from rfl)) (Nat.lt_of_lt_of_eq (by decide) (show 9 = _ from rfl)) (by decide) (by rw [hA.row row hrow]; exact bn)
        (rng_ok (m := m) (by omega) (hA.rng row hrow) (cl c hc).2)
      exact map_toD (e_bin (e_fz e) rfl (mod_e h0))
    · show some (D.nd .lst (O.toDs (((List.range n).map (col B)).map fun c => .val (D.int (dot row c % m))))) = _
      rw [toDs_map', List.map_map, hB.len]
      show _ = some (D.nd .lst (((List.range n).map fun j => dot row (col B j) % m).map D.int))
      rw [List.map_map]
      rfl
theorem wheel_m (m : Int) (ws : List Int) : (O.val (.wheel m ws)).child 0 = some (.int m) := by
  show (atI [D.int m, D.ints ws] 0).map O.val = _
  rw [atI0]
  rfl
theorem wheel_w (m : Int) (ws : List Int) : (O.val (.wheel m ws)).child 1 = some (.val (.ints ws)) := by
  show (atI [D.int m, D.ints ws] 1).map O.val = _
  rw [atI1]
  rfl
theorem len_ints (ns : List Int) : dLen (.val (.ints ns)) = some (.int (ns.length : Int)) := by
  show some (O.int ((ns.map D.int).length : Int)) = _
  rw [List.length_map]
theorem list_ints (ns : List Int) : dList (.val (.ints ns)) = some (.ints ns) := by
  show some (O.nd .lst ((ns.map D.int).map O.val)) = _
  rw [List.map_map]
  rfl
theorem eq_nat (i j : Nat) : decide ((i : Int) = (j : Int)) = decide (i = j) := by
  by_cases h : i = j <;> simp [h] <;> omega
theorem dInt_bl (b : Bool) : dInt (.bl b) = some (.int (if b then 1 else 0)) := rfl
theorem table_of_ok {m : Int} {ws : List Int} (h : Wh m ws) : F_table_of [.val (.wheel m ws)] = some (.mat (tbl m ws)) := by
  have h0 : 0 < m := by have := h.lo; omega
  have bn : ws.length ≤ big := Nat.le_trans h.most (by decide)
  refine fn_rt rfl (seq_go (t' := [some (.val (.wheel m ws)), some (.int (ws.length : Int)), none, none, none]) (e_asg (e_v1 (e_ix rfl rfl (wheel_w m ws)) (len_ints ws))) (seq_go (t' := [some (.val (.wheel m ws)), some (.int (ws.length : Int)), some (.mat ((List.range (ws.length - 1)).map fun (row : Nat) => (List.range ws.length).map fun (at' : Nat) => (if at' = row + 1 then (1 : Int) else 0) % m)), none, none]) (e_asg (t := [some (.val (.wheel m ws)), some (.int (ws.length : Int)), none, none, none]) ?_) (seq_rt (e_ret ?_))))
  · rw [vLc_map (xs := List.range (ws.length - 1)) (φ := fun (i : Nat) => D.int (i : Int)) (ψ := fun (row : Nat) => D.ints ((List.range ws.length).map fun (at' : Nat) => (if at' = row + 1 then (1 : Int) else 0) % m)) (wr1 (n := ws.length - 1) ?_ (by omega)) (by rw [List.length_range]; omega)]
    · show _ = some (O.nd .lst (((List.range (ws.length - 1)).map fun (row : Nat) => (List.range ws.length).map fun (at' : Nat) => (if at' = row + 1 then (1 : Int) else 0) % m).map fun r => .val (D.ints r)))
      rw [List.map_map]
      rfl
    · intro row hrow
      refine el (o := .nd .lst ((List.range ws.length).map fun (at' : Nat) => .val (D.int ((if at' = row + 1 then (1 : Int) else 0) % m)))) rfl (vLc_map (xs := List.range ws.length) (φ := fun (i : Nat) => D.int (i : Int)) (ψ := fun (at' : Nat) => D.int ((if at' = row + 1 then (1 : Int) else 0) % m)) (wr1 (n := ws.length) rfl bn) (by rw [List.length_range]; exact bn) fun at' hat => ?_) |>.trans ?_
      · refine el (o := .int ((if at' = row + 1 then (1 : Int) else 0) % m)) rfl (e_bin (e_fz (e_v1 (o := .int (if at' = row + 1 then (1 : Int) else 0)) (e_fz (e_cmp (k := decide (at' = row + 1)) rfl (e_fz (e_bin rfl rfl rfl)) ?_)) ?_)) (e_ix rfl rfl (wheel_m m ws)) (mod_e h0))
        · show dEq (D.int (at' : Int)) (D.int ((row : Int) + 1)) = _
          rw [dEq_int]
          congr 1
          exact eq_nat at' (row + 1)
        · show dInt (.bl (decide (at' = row + 1))) = _
          rw [dInt_bl]
          simp only [decide_eq_true_eq]
      · show some (D.nd .lst (O.toDs ((List.range ws.length).map fun (at' : Nat) => .val (D.int ((if at' = row + 1 then (1 : Int) else 0) % m))))) = _
        rw [toDs_map']
        show _ = some (D.nd .lst (((List.range ws.length).map fun (at' : Nat) => (if at' = row + 1 then (1 : Int) else 0) % m).map D.int))
        rw [List.map_map]
        rfl
    · refine (e_fz (e_bin rfl rfl rfl)).trans ?_
      show some (O.int ((ws.length : Int) - 1)) = _
      have := h.len
      rw [show ((ws.length - 1 : Nat) : Int) = (ws.length : Int) - 1 by omega]
  · have e1 : vNd .lst [v1 dList (bIx (bVar 0) (bFz (vC (.int 1))))] (fzAll [some (.val (.wheel m ws)), some (.int (ws.length : Int)), some (.mat ((List.range (ws.length - 1)).map fun (row : Nat) => (List.range ws.length).map fun (at' : Nat) => (if at' = row + 1 then (1 : Int) else 0) % m)), none, none]) = some (.nd .lst [.ints ws]) := by
      have e0 : v1 dList (bIx (bVar 0) (bFz (vC (.int 1)))) (fzAll [some (.val (.wheel m ws)), some (.int (ws.length : Int)), some (.mat ((List.range (ws.length - 1)).map fun (row : Nat) => (List.range ws.length).map fun (at' : Nat) => (if at' = row + 1 then (1 : Int) else 0) % m)), none, none]) = some (.ints ws) := e_v1 (e_ix rfl rfl (wheel_w m ws)) (list_ints ws)
      unfold vNd
      simp only [vAll]
      rw [e0]
      rfl
    have e2 : bVar 2 (fzAll [some (.val (.wheel m ws)), some (.int (ws.length : Int)), some (.mat ((List.range (ws.length - 1)).map fun (row : Nat) => (List.range ws.length).map fun (at' : Nat) => (if at' = row + 1 then (1 : Int) else 0) % m)), none, none]) = some (.val (.mat ((List.range (ws.length - 1)).map fun (row : Nat) => (List.range ws.length).map fun (at' : Nat) => (if at' = row + 1 then (1 : Int) else 0) % m))) := by
      show some (O.val (.nd .lst (O.toDs (((List.range (ws.length - 1)).map fun (row : Nat) => (List.range ws.length).map fun (at' : Nat) => (if at' = row + 1 then (1 : Int) else 0) % m).map fun r => .val (D.ints r))))) = _
      rw [toDs_map']
    refine (e_bin e2 (e_fz e1) (cat_e (xs := ((List.range (ws.length - 1)).map fun (row : Nat) => (List.range ws.length).map fun (at' : Nat) => (if at' = row + 1 then (1 : Int) else 0) % m).map D.ints) (ys := [D.ints ws]) rfl ?_ ?_)).trans ?_
    · show some (Nk.lst, [(O.ints ws).toD]) = _
      rw [toD_ints]
    · rw [List.length_map, List.length_map, List.length_range]
      show ws.length - 1 + 1 ≤ 100000
      have : ws.length ≤ 100000 := bn
      omega
    · unfold tbl
      show some (O.nd .lst ((List.map D.ints _ ++ List.map D.ints [ws]).map O.val)) = _
      rw [← List.map_append, List.map_map]
      rfl
abbrev O.mats (Ms : List (List (List Int))) : O := .nd .lst (Ms.map fun M => .val (D.mat M))
abbrev D.mats (Ms : List (List (List Int))) : D := .nd .lst (Ms.map D.mat)
theorem toD_mats (Ms : List (List (List Int))) : (O.mats Ms).toD = .mats Ms := by
  show D.nd .lst (O.toDs (Ms.map fun M => .val (D.mat M))) = _
  rw [toDs_map']
theorem toD_mat (M : List (List Int)) : (O.mat M).toD = .mat M := by
  show D.nd .lst (O.toDs (M.map fun M => .val (D.ints M))) = _
  rw [toDs_map']
theorem ladder_go {m : Int} {n : Nat} {T : List (List Int)} {many B : Nat} (h0 : 0 < m) (hm : m ≤ 1000) (hn : n ≤ 4) (hT : Sq m n T) (hB : many < 2 ^ B) (hB2 : B ≤ 50000) : ∀ (k i : Nat), i + k = B + 1 → ∃ L, 1 ≤ L ∧ many < 2 ^ L ∧ L ≤ 60000 ∧
    sWhile (bT (vCmp .LtE (bFz (vBin .LShift (bFz (vC (.int 1))) (bFz (v1 dLen (bVar 3))))) (bVar 2))) (sSeq (sApp 3 [] (vCall F_product [(aPl (bVar 0)), (aPl (bIx (bVar 3) (bFz (vNeg (bFz (vC (.int 1))))))), (aPl (bIx (bVar 3) (bFz (vNeg (bFz (vC (.int 1)))))))])) sNext)
      [some (.int m), some (.val (.mat T)), some (.int (many : Int)), some (.mats ((List.range (i + 1)).map (lad m T)))] = some (.nx [some (.int m), some (.val (.mat T)), some (.int (many : Int)), some (.mats ((List.range L).map (lad m T)))]) := by
  intro k
  induction k with
  | zero =>
    intro i hi
    -- so many never come
    refine ⟨i + 1, by omega, Nat.lt_of_lt_of_le hB (Nat.pow_le_pow_right (by omega) (by omega)), by omega, while_end ?_⟩
    have hlt : many < 2 ^ (i + 1) := Nat.lt_of_lt_of_le hB (Nat.pow_le_pow_right (by omega) (by omega))
    refine e_T (e_cmp (e_fz (e_bin (o := .int (((2 ^ (i + 1) : Nat)) : Int)) rfl (e_fz (e_v1 (o := .int ((i + 1 : Nat) : Int)) rfl ?_)) ?_)) rfl ?_)
    · show some (O.int (((O.toDs (((List.range (i + 1)).map (lad m T)).map fun M => .val (D.mat M))).length : Nat) : Int)) = _
      rw [toDs_map', List.length_map, List.length_map, List.length_range]
    · refine (shl_e (j := i + 1) (by omega) (by decide)).trans ?_
      rw [Int.one_mul]
      simp
    · show some (decide (((2 ^ (i + 1) : Nat) : Int) ≤ (many : Int))) = _
      rw [decide_eq_false (by omega)]
  | succ k ih =>
    intro i hi
    have cnd : vCmp .LtE (bFz (vBin .LShift (bFz (vC (.int 1))) (bFz (v1 dLen (bVar 3))))) (bVar 2) [some (.int m), some (.val (.mat T)), some (.int (many : Int)), some (.mats ((List.range (i + 1)).map (lad m T)))] = some (.bl (decide (2 ^ (i + 1) ≤ many))) := by
      refine (e_cmp (k := decide (2 ^ (i + 1) ≤ many)) (e_fz (e_bin (o := .int (((2 ^ (i + 1) : Nat)) : Int)) rfl (e_fz (e_v1 (o := .int ((i + 1 : Nat) : Int)) rfl ?_)) ?_)) rfl ?_)
      · show some (O.int (((O.toDs (((List.range (i + 1)).map (lad m T)).map fun M => .val (D.mat M))).length : Nat) : Int)) = _
        rw [toDs_map', List.length_map, List.length_map, List.length_range]
      · refine (shl_e (j := i + 1) (by omega) (by decide)).trans ?_
        rw [Int.one_mul]
        simp
      · show some (decide (((2 ^ (i + 1) : Nat) : Int) ≤ (many : Int))) = _
        congr 1
        by_cases h : 2 ^ (i + 1) ≤ many
        · rw [decide_eq_true h, decide_eq_true (by omega)]
        · rw [decide_eq_false h, decide_eq_false (by omega)]
    by_cases h : 2 ^ (i + 1) ≤ many
    · obtain ⟨L, l1, l2, l3, l4⟩ := ih (i + 1) (by omega)
      refine ⟨L, l1, l2, l3, while_turn (e_T (by rw [cnd, decide_eq_true h])) (seq_go (t' := [some (.int m), some (.val (.mat T)), some (.int (many : Int)), some (.mats ((List.range (i + 2)).map (lad m T)))]) ?_ rfl) l4⟩
      have lst : bIx (bVar 3) (bFz (vNeg (bFz (vC (.int 1))))) [some (.int m), some (.val (.mat T)), some (.int (many : Int)), some (.mats ((List.range (i + 1)).map (lad m T)))] = some (.val (.mat (lad m T i))) := by
        refine e_ix (j := -1) rfl rfl ?_
        show atI (((List.range (i + 1)).map (lad m T)).map fun M => O.val (D.mat M)) (-1) = _
        rw [List.range_succ, List.map_append, List.map_append]
        exact atI_last _ _
      have sq := sq_lad h0 hT i
      have ar : ∀ b, aPl b [some (.int m), some (.val (.mat T)), some (.int (many : Int)), some (.mats ((List.range (i + 1)).map (lad m T)))] = (b [some (.int m), some (.val (.mat T)), some (.int (many : Int)), some (.mats ((List.range (i + 1)).map (lad m T)))]).map fun o => (.val o.toD, o.isVal) := fun b => rfl
      have cal : vCall F_product [(aPl (bVar 0)), (aPl (bIx (bVar 3) (bFz (vNeg (bFz (vC (.int 1))))))), (aPl (bIx (bVar 3) (bFz (vNeg (bFz (vC (.int 1)))))))] [some (.int m), some (.val (.mat T)), some (.int (many : Int)), some (.mats ((List.range (i + 1)).map (lad m T)))] = some (.mat (lad m T (i + 1))) := by
        refine e_call (os := [.int m, .val (.mat (lad m T i)), .val (.mat (lad m T i))]) ?_ (product_ok h0 hm hn sq sq)
        simp only [aAll, ar, lst]
        rfl
      refine (app_e cal rfl (by rw [List.length_map, List.length_map, List.length_range]; show i + 1 < 100000; omega)).trans ?_
      rw [toD_mat]
      show some (Out.nx [some (.int m), some (.val (.mat T)), some (.int (many : Int)), some (.nd .lst (((List.range (i + 1)).map (lad m T)).map (fun M => O.val (D.mat M)) ++ [.val (D.mat (lad m T (i + 1)))]))]) = some (Out.nx [some (.int m), some (.val (.mat T)), some (.int (many : Int)), some (.nd .lst (((List.range (i + 1 + 1)).map (lad m T)).map (fun M => O.val (D.mat M))))])
      rw [List.range_succ (n := i + 1), List.map_append, List.map_append]
      rfl
    · exact ⟨i + 1, by omega, by omega, by omega, while_end (e_T (by rw [cnd, decide_eq_false h]))⟩
theorem ladder_of_ok {m : Int} {n : Nat} {T : List (List Int)} {many B : Nat} (h0 : 0 < m) (hm : m ≤ 1000) (hn : n ≤ 4) (hT : Sq m n T) (hB : many < 2 ^ B) (hB2 : B ≤ 50000) : ∃ L, 1 ≤ L ∧ many < 2 ^ L ∧ L ≤ 60000 ∧ F_ladder_of [.int m, .val (.mat T), .int (many : Int)] = some (.mats ((List.range L).map (lad m T))) := by
  obtain ⟨L, l1, l2, l3, l4⟩ := ladder_go h0 hm hn hT hB hB2 (B + 1) 0 (by omega)
  refine ⟨L, l1, l2, l3, fn_rt rfl (seq_go (t' := [some (.int m), some (.val (.mat T)), some (.int (many : Int)), some (.mats ((List.range 1).map (lad m T)))]) rfl (seq_go l4 (seq_rt rfl)))⟩
theorem led_on_go {m : Int} {n : Nat} (h0 : 0 < m) (hm : m ≤ 1000) (hn : n ≤ 4) : ∀ (Ms : List (List (List Int))) (s : List Int) (o : O) (k : Nat) (L : Option O) (x : Option O), (∀ M ∈ Ms, Sq m n M) → Ok m n s → o.toD = .ints s → ∃ o' x' k', o'.toD = .ints (ledOn m Ms s k) ∧ (o = .ints s → o' = .ints (ledOn m Ms s k)) ∧
    forIn' (gN 4) (sSeq (sIf (bT (vCmp .Eq (bFz (vBin .Mod (bVar 3) (bFz (vC (.int 2))))) (bFz (vC (.int 1))))) (sSeq (sAsg 2 (vCall F_led [(aPl (bVar 0)), (aPl (bVar 4)), (aPl (bVar 2))])) sNext) sNext) (sSeq (sAsg 3 (vBin .FloorDiv (bVar 3) (bFz (vC (.int 2))))) sNext)) (Ms.map D.mat)
      [some (.int m), L, some o, some (.int (k : Int)), x] = some (.nx [some (.int m), L, some o', k', x'])
  | [], s, o, k, L, x, hM, hs, ho => ⟨o, x, _, ho, id, rfl⟩
  | M :: Ms, s, o, k, L, x, hM, hs, ho => by
    have hM1 := hM M List.mem_cons_self
    have hM2 := fun M' h => hM M' (List.mem_cons_of_mem M h)
    have cnd : vCmp .Eq (bFz (vBin .Mod (bVar 3) (bFz (vC (.int 2))))) (bFz (vC (.int 1))) [some (.int m), L, some o, some (.int (k : Int)), some (.val (D.mat M))] = some (.bl (decide (k % 2 = 1))) := by
      refine e_cmp (e_fz (e_bin rfl rfl (mod_e (by decide)))) rfl ?_
      show dEq (D.int ((k : Int) % 2)) (D.int 1) = _
      rw [dEq_int]
      congr 1
      by_cases h : k % 2 = 1
      · rw [decide_eq_true h, decide_eq_true (by omega)]
      · rw [decide_eq_false h, decide_eq_false (by omega)]
    have dv : ∀ o2 : O, sAsg 3 (vBin .FloorDiv (bVar 3) (bFz (vC (.int 2)))) [some (.int m), L, some o2, some (.int (k : Int)), some (.val (D.mat M))] = some (.nx [some (.int m), L, some o2, some (.int ((k / 2 : Nat) : Int)), some (.val (D.mat M))]) := fun o2 => by
      refine e_asg (o := .int ((k / 2 : Nat) : Int)) (e_bin rfl rfl ((div_e (by decide) (by decide)).trans ?_))
      congr 2
    by_cases h : k % 2 = 1
    · have cal : vCall F_led [(aPl (bVar 0)), (aPl (bVar 4)), (aPl (bVar 2))] [some (.int m), L, some o, some (.int (k : Int)), some (.val (D.mat M))] = some (.ints (act m M s)) := by
        refine e_callF (k := o.isVal) (os := [.int m, .val (.mat M), .val o.toD]) ?_ (by rw [ho]; exact led_ok h0 hm hn hM1 hs) rfl (allFlat_ints _)
        show some ([O.int m, .val (.mat M), .val o.toD], (true && (true && (o.isVal && true)))) = _
        simp
      obtain ⟨o', x', k', q1, q2, q3⟩ := led_on_go h0 hm hn Ms (act m M s) (.ints (act m M s)) (k / 2) L (some (.val (D.mat M))) hM2 (ok_act h0 hM1.len) (toD_ints _)
      refine ⟨o', x', k', by unfold ledOn; rw [if_pos h]; exact q1, fun _ => by unfold ledOn; rw [if_pos h]; exact q2 rfl, ?_⟩
      rw [List.map_cons]
      unfold forIn'
      rw [show gN 4 (D.mat M) [some (.int m), L, some o, some (.int (k : Int)), x] = some [some (.int m), L, some o, some (.int (k : Int)), some (.val (D.mat M))] from rfl, ob]
      rw [seq_go (t' := [some (.int m), L, some (.ints (act m M s)), some (.int (k : Int)), some (.val (D.mat M))]) (if_t (e_T (by rw [cnd, decide_eq_true h])) (seq_go (e_asg cal) rfl)) (seq_go (dv _) rfl)]
      exact q3
    · obtain ⟨o', x', k', q1, q2, q3⟩ := led_on_go h0 hm hn Ms s o (k / 2) L (some (.val (D.mat M))) hM2 hs ho
      refine ⟨o', x', k', by unfold ledOn; rw [if_neg h]; exact q1, fun e => by unfold ledOn; rw [if_neg h]; exact q2 e, ?_⟩
      rw [List.map_cons]
      unfold forIn'
      rw [show gN 4 (D.mat M) [some (.int m), L, some o, some (.int (k : Int)), x] = some [some (.int m), L, some o, some (.int (k : Int)), some (.val (D.mat M))] from rfl, ob]
      rw [seq_go (t' := [some (.int m), L, some o, some (.int (k : Int)), some (.val (D.mat M))]) (if_f (e_T (by rw [cnd, decide_eq_false h])) rfl) (seq_go (dv _) rfl)]
      exact q3
theorem led_on_ok {m : Int} {n : Nat} {Ms : List (List (List Int))} {s : List Int} {o : O} {k : Nat} (h0 : 0 < m) (hm : m ≤ 1000) (hn : n ≤ 4) (hM : ∀ M ∈ Ms, Sq m n M) (hs : Ok m n s) (ho : o.toD = .ints s) :
    ∃ o', F_led_on [.int m, .val (.mats Ms), o, .int (k : Int)] = some o' ∧ o'.toD = .ints (ledOn m Ms s k) ∧ (o = .ints s → o' = .ints (ledOn m Ms s k)) := by
  obtain ⟨o', x', k', q1, q2, q3⟩ := led_on_go h0 hm hn Ms s o k (some (.val (.mats Ms))) none hM hs ho
  refine ⟨o', fn_rt rfl (seq_go (t' := [some (.int m), some (.val (.mats Ms)), some o', k', x']) ?_ (seq_rt rfl)), q1, q2⟩
  show sFor (wSeq (bVar 1)) (gN 4) _ [some (.int m), some (.val (.mats Ms)), some o, some (.int (k : Int)), none] = _
  exact e_for rfl q3
theorem state_of_ok {m : Int} {ws b : List Int} {k B : Nat} (h : Wh m ws) (hb : Ok m ws.length b) (hk : k < 2 ^ B) (hB : B ≤ 50000) : F_state_of [.val (.wheel m ws), .val (.ints b), .int (k : Int)] = some (.ints (itr (stp m ws) k b)) := by
  have h0 : 0 < m := by have := h.lo; omega
  have hn : 0 < ws.length := h.len
  have sq := sq_tbl h0 hn h.rng
  obtain ⟨L, l1, l2, l3, l4⟩ := ladder_of_ok h0 h.hi h.most sq hk hB
  obtain ⟨o', q1, q2, q3⟩ := led_on_ok (o := .ints b) (k := k) h0 h.hi h.most (Ms := (List.range L).map (lad m (tbl m ws))) (fun M hM => by
    obtain ⟨i, _, rfl⟩ := List.mem_map.mp hM
    exact sq_lad h0 sq i) hb (toD_ints b)
  have e : ledOn m ((List.range L).map (lad m (tbl m ws))) b k = itr (stp m ws) k b := by
    have := ledOn_lad h0 sq (f := stp m ws) (fun s hs => act_tbl h0 hn hs) (fun s hs => ok_stp h0 hn hs) L 0 b k hb l2
    rw [← List.range_eq_range'] at this
    rw [this]
    congr 1
    omega
  refine fn_rt rfl (seq_go (t' := [some (.val (.wheel m ws)), some (.val (.ints b)), some (.int (k : Int)), some (.mat (tbl m ws)), some (.int (k : Int))]) (par_e (all_1 (e_if_f (e_T ((e_cmp rfl rfl (lt_e _ _)).trans ?_)) (e_call (as_t (a_pl rfl) as_0) (table_of_ok h))) (all_1 (e_v1 (o := .int (k : Int)) rfl ?_) all_0)) rfl) (seq_rt (e_ret ?_)))
  · rw [decide_eq_false (by omega)]
  · show some (O.int (if (k : Int) < 0 then -(k : Int) else (k : Int))) = _
    rw [if_neg (by omega)]
  · have tm : fzAll [some (O.val (.wheel m ws)), some (.val (.ints b)), some (.int (k : Int)), some (.mat (tbl m ws)), some (.int (k : Int))] = [some (O.val (.wheel m ws)), some (.val (.ints b)), some (.int (k : Int)), some (.val (.mat (tbl m ws))), some (.int (k : Int))] := by
      show [_, _, _, some (O.val (O.mat (tbl m ws)).toD), _] = _
      rw [toD_mat]
      rfl
    rw [tm]
    refine e_call (os := [.int m, .val (.mats ((List.range L).map (lad m (tbl m ws)))), .ints b, .int (k : Int)]) (as_t (a_pl (e_ix rfl rfl (wheel_m m ws))) (as_t ?_ (as_t (a_mv (e_v1 rfl (list_ints b))) (as_t (a_pl rfl) as_0)))) (by rw [q1, q3 rfl, e])
    have z := a_np (e_call (as_t (a_pl (e_ix rfl rfl (wheel_m m ws))) (as_t (a_pl rfl) (as_t (a_pl rfl) as_0))) l4 (t := [some (O.val (.wheel m ws)), some (.val (.ints b)), some (.int (k : Int)), some (.val (.mat (tbl m ws))), some (.int (k : Int))]) (F := F_ladder_of) (as := [(aPl (bIx (bVar 0) (bFz (vC (.int 0))))), (aPl (bVar 3)), (aPl (bVar 4))]))
    rw [toD_mats] at z
    exact z
theorem state_at_ok {m : Int} {ws b : List Int} {k B : Nat} (h : Wh m ws) (hb : Ok m ws.length b) (hk : k < 2 ^ B) (hB : B ≤ 50000) : F_state_at [.val (.wheel m ws), .val (.ints b), .int (k : Int)] = some (.ints (itr (stp m ws) k b)) :=
  fn_rt rfl (seq_go (e_drop (e_call (as_t (a_pl rfl) as_0) (check_wheel_ok h))) (seq_go (e_drop (e_call (as_t (a_pl rfl) (as_t (a_pl rfl) as_0)) (check_beginning_ok h hb))) (seq_go (e_drop (e_call (as_t (a_pl rfl) (as_t (a_pl rfl) as_0)) (check_place_ok (by omega)))) (seq_rt (e_ret (e_call (as_t (a_pl rfl) (as_t (a_pl rfl) (as_t (a_pl rfl) as_0))) (state_of_ok h hb hk hB)))))))
theorem number_at_ok {m : Int} {ws b : List Int} {k B : Nat} (h : Wh m ws) (hb : Ok m ws.length b) (hk : k < 2 ^ B) (hB : B ≤ 50000) : F_number_at [.val (.wheel m ws), .val (.ints b), .int (k : Int)] = some (.int ((itr (stp m ws) k b).getD 0 0)) := by
  have ok := ok_itr (ws := ws) (by have := h.lo; omega) h.len hb k
  refine fn_rt rfl (seq_rt (e_ret (e_of (e_ix (j := 0) (e_fz (e_call (as_t (a_pl rfl) (as_t (a_pl rfl) (as_t (a_pl rfl) as_0))) (state_at_ok h hb hk hB))) rfl ?_))))
  rw [toD_ints]
  exact child_ints (j := 0) (by rw [ok.len]; exact h.len)
end Den

/-! PL: the laws' own helpers. -/
namespace Den
open PySem L2 Mt
local macro_rules | `(tactic| walk_at "den") => `(tactic| (all_goals (try simp only [fnOf, sSeq, sFz, sAsg, sPar, sUnp, sDrop, sRet, sRetN, sIf, sNext, sNever, sPut, sApp, sMod, modAt, mApp, mPut, fzAt, fzAll, vAll, setAll, gN, gT, gSet, wipeT, vOf, bFz, vC, v1, v2, vBin, vNeg, vCmp, vChain, vAnd, vOr, vNot, bT, bAnd, bOr, bNot, vIf, bIx, dIx, O.isDict, vSl, opI, vNd, vCall, aAll, aPl, aNp, aMv, wSeq, wRange1, wRange2, wRange3, wZip, wEnum, bVar, bYes, dBin, dSub, dMod, dFdiv, dPow, dShl, dShr, i2, dNeg, dCmp, c2, dIs, dInt, dAbs, dMax, dMin, O.child, O.fz, O.toD, O.toDs, O.isVal, O.int?, O.bl?, O.v?, O.allFlat, O.allFlats, ob, om, Option.map_some, Option.bind_some, Option.map_none, Option.bind_none, Option.join_some, Option.join_none, List.length_cons, List.length_nil, List.map_cons, List.map_nil, List.replicate, List.cons_append, List.nil_append, List.getElem?_cons_zero, List.getElem?_cons_succ, List.set_cons_zero, List.set_cons_succ, if_true, if_false, Bool.false_eq_true, reduceIte, Nat.reduceAdd, Nat.reduceSub, Nat.reduceEqDiff, Bool.not_true, Bool.not_false, Bool.and_true, Bool.true_and, Bool.and_false, Bool.false_and, List.all_cons, List.all_nil, true_or, or_true, true_and, and_true, O.ty, dIsB, dAll, dAny, dSum, dLen, dList, dTuple, O.top, O.vals?, dSl, dAdd, dMul, ints?_map, ints?_map', bls?_map, bls?_map', toDs_map', vals_map', toDs_ints, vals_map, toDs_vals, List.length_map, dEq_int, dEq_ints, dEq_bl, cut_map, decide_true, decide_false, decide_eq_true_eq, Bool.not_eq_true', kit_ii, kit_ib, kit_ll, kit_tt, allFlats_ints, vals_mapI, Int.cast_ofNat_Int, Int.reduceAdd, Int.reduceSub, Int.reduceMul, Int.reduceNeg, Int.reduceLT, Int.reduceLE, Int.reduceEq, Int.reduceMod, Int.reduceDiv, Int.reducePow, Int.reduceToNat, Nat.reduceMul, Nat.reducePow, Nat.reduceLeDiff, Nat.reduceLT, decide_not, Int.ofNat_one, Int.ofNat_zero, ne_eq, not_true, not_false_iff, Int.reduceNe])))
noncomputable def B__law_cell_at : SE := (sSeq (sIf (bT (vCmp .Lt (bVar 1) (bFz (v1 dLen (bVar 0))))) (sSeq (sRet (vOf (bIx (bVar 0) (bVar 1)))) sNext) sNext) (sSeq (sRet (vC (.int 0))) sNext))
noncomputable def F__law_cell_at : Fn := fnOf 2 2 B__law_cell_at
noncomputable def B__law_modulus : SE := (sSeq (sAsg 1 (vNd .tup [(vBin .Add (bFz (vC (.int 1))) (bFz (vBin .Mod (bFz (vBin .FloorDiv (bVar 0) (bFz (vC (.int 5))))) (bFz (vC (.int 12)))))), (vOf (bIx (bFz (vNd .tup [(vC (.int 2)), (vC (.int 3)), (vC (.int 5)), (vC (.int 7)), (vC (.int 11)), (vC (.int 13)), (vC (.int 101)), (vC (.int 499)), (vC (.int 997))])) (bFz (vBin .Mod (bFz (vBin .FloorDiv (bVar 0) (bFz (vC (.int 5))))) (bFz (vC (.int 9))))))), (vBin .Pow (bFz (vC (.int 2))) (bFz (vC (.int 4))))])) (sSeq (sAsg 1 (vBin .Add (bVar 1) (bFz (vNd .tup [(vOf (bIx (bFz (vNd .tup [(vC (.int 4)), (vC (.int 8)), (vC (.int 9)), (vC (.int 27)), (vC (.int 64)), (vC (.int 125)), (vC (.int 512)), (vC (.int 729)), (vC (.int 343))])) (bFz (vBin .Mod (bFz (vBin .FloorDiv (bVar 0) (bFz (vC (.int 5))))) (bFz (vC (.int 9))))))), (vBin .Add (bFz (vC (.int 1))) (bFz (vBin .Mod (bFz (vBin .FloorDiv (bVar 0) (bFz (vC (.int 5))))) (bFz (vC (.int 1000))))))])))) (sSeq (sRet (vOf (bIx (bVar 1) (bFz (vBin .Mod (bVar 0) (bFz (vC (.int 5)))))))) sNext)))
noncomputable def F__law_modulus : Fn := fnOf 1 2 B__law_modulus
noncomputable def B__law_draw : SE := (sSeq (sAsg 3 (vNd .tup [(vC (.int 1000003)), (vC (.int 1000033)), (vC (.int 1000037)), (vC (.int 1000039)), (vC (.int 1000081)), (vC (.int 1000099)), (vC (.int 1000117)), (vC (.int 1000121)), (vC (.int 1000133)), (vC (.int 1000151)), (vC (.int 1000159)), (vC (.int 1000171)), (vC (.int 1000183)), (vC (.int 1000187)), (vC (.int 1000193)), (vC (.int 1000199))])) (sSeq (sRet (vBin .Mod (bFz (vBin .Mod (bFz (vBin .Add (bFz (vBin .Mult (bVar 0) (bFz (vC (.int 48271))))) (bFz (vBin .Mult (bVar 1) (bFz (vC (.int 69621))))))) (bIx (bVar 3) (bFz (vBin .Mod (bVar 1) (bFz (vC (.int 16)))))))) (bVar 2))) sNext))
noncomputable def F__law_draw : Fn := fnOf 3 4 B__law_draw
noncomputable def B__law_value : SE := (sSeq (sIf (bT (vCmp .GtE (bVar 0) (bFz (vBin .Pow (bFz (vC (.int 10))) (bFz (vC (.int 18))))))) (sSeq (sRet (vBin .RShift (bFz (vBin .Mod (bFz (vBin .Sub (bVar 0) (bFz (vBin .Pow (bFz (vC (.int 10))) (bFz (vC (.int 18))))))) (bFz (vBin .Pow (bFz (vC (.int 10))) (bFz (vC (.int 40))))))) (bFz (vBin .Mult (bFz (vC (.int 3))) (bVar 1))))) sNext) sNext) (sSeq (sAsg 2 (vBin .Mod (bVar 0) (bFz (vBin .Pow (bFz (vC (.int 10))) (bFz (vC (.int 18))))))) (sSeq (sAsg 3 (vCall F__law_draw [(aNp (vBin .Mult (bFz (vBin .Add (bVar 2) (bFz (vBin .Mult (bFz (vC (.int 977))) (bVar 1))))) (bFz (vBin .Add (bFz (vBin .Add (bVar 2) (bFz (vBin .Mult (bFz (vC (.int 31))) (bVar 1))))) (bFz (vC (.int 5))))))), (aNp (vBin .Add (bFz (vBin .Mod (bVar 1) (bFz (vC (.int 9))))) (bFz (vC (.int 1))))), (aNp (vC (.int 999983)))])) (sSeq (sRet (vBin .Add (bFz (vBin .Mult (bVar 3) (bFz (vC (.int 1000003))))) (bFz (vCall F__law_draw [(aNp (vBin .Add (bFz (vBin .Mult (bFz (vBin .Add (bVar 2) (bFz (vBin .Mult (bFz (vC (.int 31))) (bVar 1))))) (bFz (vBin .Add (bVar 2) (bFz (vC (.int 7))))))) (bFz (vBin .Mult (bFz (vC (.int 977))) (bVar 1))))), (aNp (vBin .Add (bFz (vBin .Mod (bVar 1) (bFz (vC (.int 7))))) (bFz (vC (.int 2))))), (aNp (vC (.int 1000003)))])))) sNext))))
noncomputable def F__law_value : Fn := fnOf 2 4 B__law_value
noncomputable def B__law_wheel : SE := (sSeq (sAsg 3 (vCall F__law_cell_at [(aPl (bVar 0)), (aPl (bVar 1))])) (sSeq (sPar [4, 5] [(vCall F__law_modulus [(aNp (vCall F__law_value [(aPl (bVar 3)), (aNp (vC (.int 1)))]))]), (vBin .Add (bFz (vC (.int 1))) (bFz (vBin .Mod (bFz (vCall F__law_value [(aPl (bVar 3)), (aNp (vC (.int 2)))])) (bVar 2))))]) (sSeq (sFz [5] (sAsg 6 (vLc (wRange1 (bVar 5)) [7] (gN 7) bYes (vBin .Mod (bFz (vCall F__law_value [(aNp (vCall F__law_cell_at [(aPl (bVar 0)), (aNp (vBin .Add (bVar 1) (bFz (vBin .Mod (bVar 7) (bFz (vC (.int 2)))))))])), (aNp (vBin .Add (bVar 7) (bFz (vC (.int 3)))))])) (bVar 4))))) (sSeq (sIf (bT (vCmp .Eq (bFz (vBin .Mod (bFz (vCall F__law_value [(aPl (bVar 3)), (aNp (vC (.int 8)))])) (bFz (vC (.int 3))))) (bFz (vC (.int 0))))) (sSeq (sPut 6 [] (bFz (vC (.int 0))) (vBin .Mod (bFz (vBin .Mult (bIx (bVar 6) (bFz (vC (.int 0)))) (bIx (bFz (vNd .tup [(vC (.int 2)), (vC (.int 6)), (vC (.int 0))])) (bFz (vBin .Mod (bFz (vCall F__law_value [(aPl (bVar 3)), (aNp (vC (.int 9)))])) (bFz (vC (.int 3)))))))) (bVar 4))) sNext) sNext) (sSeq (sFz [5] (sAsg 8 (vLc (wRange1 (bVar 5)) [7] (gN 7) bYes (vBin .Mod (bFz (vCall F__law_value [(aNp (vCall F__law_cell_at [(aPl (bVar 0)), (aNp (vBin .Add (bVar 1) (bFz (vBin .Mod (bVar 7) (bFz (vC (.int 3)))))))])), (aNp (vBin .Add (bVar 7) (bFz (vC (.int 10)))))])) (bVar 4))))) (sSeq (sRet (vNd .tup [(vNd .tup [(vOf (bVar 4)), (vOf (bVar 6))]), (vOf (bVar 8))])) sNext))))))
noncomputable def F__law_wheel : Fn := fnOf 3 9 B__law_wheel
noncomputable def B__law_copy : SE := (sSeq (sRet (vNd .tup [(vOf (bIx (bVar 0) (bFz (vC (.int 0))))), (v1 dList (bIx (bVar 0) (bFz (vC (.int 1)))))])) sNext)
noncomputable def F__law_copy : Fn := fnOf 1 1 B__law_copy
noncomputable def B__law_whole : SE := (sSeq (sRet (vOf (vAnd (bFz (v1 (dIsB "int") (bVar 0))) (bFz (vNot (bFz (v1 (dIsB "bool") (bVar 0)))))))) sNext)
noncomputable def F__law_whole : Fn := fnOf 1 1 B__law_whole
noncomputable def B__law_numbers : SE := (sSeq (sIf (bOr (bNot (bT (bFz (v1 (dIsB "list") (bVar 0))))) (bT (vCmp .NotEq (bFz (v1 dLen (bVar 0))) (bVar 2)))) (sSeq (sRet (vC (.bl false))) sNext) sNext) (sSeq (sRet (v1 dAll (bFz (vLc (wSeq (bVar 0)) [3] (gN 3) bYes (vOf (vAnd (bFz (vCall F__law_whole [(aPl (bVar 3))])) (bFz (vChain .LtE .Lt (bFz (vC (.int 0))) (bVar 3) (bVar 1))))))))) sNext))
noncomputable def F__law_numbers : Fn := fnOf 3 4 B__law_numbers
noncomputable def B__law_step : SE := (sSeq (sFz [0] (sUnp [2, 3] (bVar 0))) (sSeq (sAsg 4 (vC (.int 0))) (sSeq (sFz [3, 1] (sFor (wZip (bVar 3) (bVar 1)) (gT [5, 6]) (sSeq (sAsg 4 (vBin .Add (bVar 4) (bFz (vBin .Mult (bVar 5) (bVar 6))))) sNext))) (sSeq (sRet (vBin .Add (bFz (vSl (bVar 1) (some (bFz (vC (.int 1)))) none)) (bFz (vNd .lst [(vBin .Mod (bVar 4) (bVar 2))])))) sNext))))
noncomputable def F__law_step : Fn := fnOf 2 7 B__law_step
/-! ### picking from a tuple -/
def inR (lo hi : Int) (d : D) : Bool := match d.int? with
  | some p => decide (lo ≤ p) && decide (p ≤ hi)
  | none => false
theorem pick {ds : List D} {lo hi : Int} (h : ds.all (inR lo hi) = true) {j : Int} (h0 : 0 ≤ j) (h1 : j < ds.length) : ∃ p : Int, lo ≤ p ∧ p ≤ hi ∧ (O.val (.nd .tup ds)).child j = some (.int p) := by
  obtain ⟨n, rfl⟩ : ∃ n : Nat, j = (n : Int) := ⟨j.toNat, by omega⟩
  have hn : n < ds.length := by omega
  have hm := List.all_eq_true.mp h _ (List.getElem_mem hn)
  have e : ds[n]? = some ds[n] := List.getElem?_eq_getElem hn
  generalize ds[n] = d at hm e
  have : ∃ p : Int, d = .int p := by
    unfold inR at hm
    cases d with
    | nd k xs => simp [D.int?] at hm
    | «at» v => cases v <;> simp [D.int?] at hm ⊢
  obtain ⟨p, rfl⟩ := this
  simp only [inR, D.int?, Bool.and_eq_true, decide_eq_true_eq] at hm
  refine ⟨p, hm.1, hm.2, ?_⟩
  show (atI ds (n : Int)).map O.val = _
  rw [atI_nat e]
  rfl
theorem add_e (i j : Int) : dBin .Add (.int i) (.int j) = some (.int (i + j)) := rfl
theorem sub_e (i j : Int) : dBin .Sub (.int i) (.int j) = some (.int (i - j)) := rfl
theorem cell_at_ok (ns : List Int) (k : Nat) : F__law_cell_at [.val (.ints ns), .int (k : Int)] = some (.int (ns.getD k 0)) := by
  have len : bFz (v1 dLen (bVar 0)) [some (O.val (.ints ns)), some (.int (k : Int))] = some (.int (ns.length : Int)) := by
    refine (e_fz (e_v1 (o := .int (ns.length : Int)) rfl ?_)).trans rfl
    show some (O.int ((ns.map D.int).length : Int)) = _
    rw [List.length_map]
  by_cases h : k < ns.length
  · refine fn_rt rfl (seq_rt (if_t (e_T ((e_cmp rfl len (lt_e _ _)).trans (by rw [decide_eq_true (by omega)]))) (seq_rt (e_ret (e_of (e_ix rfl rfl (child_ints h)))))))
  · refine fn_rt rfl (seq_go (if_f (e_T ((e_cmp rfl len (lt_e _ _)).trans (by rw [decide_eq_false (by omega)]))) rfl) (seq_rt (e_ret ?_)))
    rw [List.getD_eq_getElem?_getD, List.getElem?_eq_none (by omega)]
    rfl
theorem abs_lt {i : Int} {n : Nat} (h0 : -(n : Int) < i) (h : i < n) (hn : n ≤ 2 ^ 900) : i.natAbs < 2 ^ 1000 := by
  have : i.natAbs < n := by omega
  exact Nat.lt_of_lt_of_le this (Nat.le_trans hn (Nat.pow_le_pow_right (by omega) (by omega)))
theorem draw_ok {c : Int} {k : Nat} {m : Int} (hm : 0 < m) (hc : c.natAbs < 2 ^ 1000) (hk : k < 1000000) : ∃ v : Int, 0 ≤ v ∧ v < m ∧ F__law_draw [.int c, .int (k : Int), .int m] = some (.int v) := by
  have go : ∀ ds : List D, ds.length = 16 → ds.all (inR 1 2000000) = true → ∃ v : Int, 0 ≤ v ∧ v < m ∧ vBin .Mod (bFz (vBin .Mod (bFz (vBin .Add (bFz (vBin .Mult (bVar 0) (bFz (vC (.int 48271))))) (bFz (vBin .Mult (bVar 1) (bFz (vC (.int 69621))))))) (bIx (bVar 3) (bFz (vBin .Mod (bVar 1) (bFz (vC (.int 16)))))))) (bVar 2) [some (.int c), some (.int (k : Int)), some (.int m), some (.val (.nd .tup ds))] = some (.int v) := by
    intro ds hl ha
    obtain ⟨p, p1, p2, p3⟩ := pick ha (j := (k : Int) % 16) (by omega) (by omega)
    exact ⟨_, Int.emod_nonneg _ (by omega), Int.emod_lt_of_pos _ hm, e_bin (e_fz (e_bin (e_fz (e_bin (e_fz (e_bin rfl rfl (mul_e (mul_ok hc (abs_lt (n := 2000000) (by decide) (by decide) (by decide)))))) (e_fz (e_bin rfl rfl (mul_e (mul_ok (abs_lt (n := 2000000) (by omega) (by omega) (by decide)) (abs_lt (n := 2000000) (by decide) (by decide) (by decide)))))) (add_e _ _))) (e_ix rfl (e_fz (e_bin rfl rfl (mod_e (by decide)))) p3) (mod_e (by omega)))) rfl (mod_e hm)⟩
  obtain ⟨v, v0, v1, v2⟩ := go [.int 1000003, .int 1000033, .int 1000037, .int 1000039, .int 1000081, .int 1000099, .int 1000117, .int 1000121, .int 1000133, .int 1000151, .int 1000159, .int 1000171, .int 1000183, .int 1000187, .int 1000193, .int 1000199] rfl rfl
  exact ⟨v, v0, v1, fn_rt rfl (seq_go (e_asg rfl) (seq_rt (e_ret v2)))⟩
theorem p18 (t : Tau) : bFz (vBin .Pow (bFz (vC (.int 10))) (bFz (vC (.int 18)))) t = some (.int 1000000000000000000) := (e_fz (e_bin rfl rfl (pow_e (i := 10) (j := 18) (by decide) (by decide)))).trans rfl
theorem p40 (t : Tau) : bFz (vBin .Pow (bFz (vC (.int 10))) (bFz (vC (.int 40)))) t = some (.int 10000000000000000000000000000000000000000) := (e_fz (e_bin rfl rfl (pow_e (i := 10) (j := 40) (by decide) (by decide)))).trans rfl
/-- factors of a draw -/
theorem draw_in {r : Int} {k : Nat} (h0 : 0 ≤ r) (h1 : r < 1000000000000000000) (hk : k ≤ 1000) : (r + 977 * (k : Int)).natAbs < 2 ^ 900 ∧ (r + 31 * (k : Int) + 5).natAbs < 2 ^ 900 ∧ (r + 31 * (k : Int)).natAbs < 2 ^ 900 ∧ (r + 7).natAbs < 2 ^ 900 := by
  have e : (1100000000000000000 : Nat) ≤ 2 ^ 900 := by decide
  refine ⟨Nat.lt_of_lt_of_le ?_ e, Nat.lt_of_lt_of_le ?_ e, Nat.lt_of_lt_of_le ?_ e, Nat.lt_of_lt_of_le ?_ e⟩ <;> omega
theorem mul_lt' {a b : Int} {n : Nat} (ha0 : 0 ≤ a) (hb0 : 0 ≤ b) (ha : a < n) (hb : b < n) : a * b ≤ (n : Int) * n := Int.mul_le_mul (by omega) (by omega) hb0 (by omega)
theorem value_ex (c : Int) {k : Nat} (hk : k ≤ 1000) : ∃ v : Nat, v ≤ 10000000000000000000000000000000000000000 ∧ F__law_value [.int c, .int (k : Int)] = some (.int (v : Int)) := by
  have sm : ∀ i : Int, 0 ≤ i → i < 1100000000000000000 → i.natAbs < 2 ^ 1000 := fun i h0 h1 => abs_lt (n := 1100000000000000000) (by omega) (by omega) (by decide)
  have kk : ((k : Int)).natAbs < 2 ^ 1000 := sm _ (by omega) (by omega)
  by_cases h : (1000000000000000000 : Int) ≤ c
  · have e : F__law_value [.int c, .int (k : Int)] = some (.int ((c - 1000000000000000000) % 10000000000000000000000000000000000000000 / 2 ^ (3 * k))) := by
      refine fn_rt rfl (seq_rt (if_t (e_T ((e_cmp rfl (p18 _) (ge_e _ _)).trans (by rw [decide_eq_true h]))) (seq_rt (e_ret (e_bin (e_fz (e_bin (e_fz (e_bin rfl (p18 _) (sub_e _ _))) (p40 _) (mod_e (by decide)))) (e_fz (e_bin (o := .int ((3 * k : Nat) : Int)) rfl rfl ?_)) shr_e)))))
      refine (mul_e (mul_ok (sm _ (by decide) (by decide)) kk)).trans ?_
      rw [Int.natCast_mul]
      rfl
    have nn : 0 ≤ (c - 1000000000000000000) % 10000000000000000000000000000000000000000 / 2 ^ (3 * k) := Int.ediv_nonneg (Int.emod_nonneg _ (by decide)) (Int.le_of_lt (Int.pow_pos (by decide)))
    have n1 : (c - 1000000000000000000) % 10000000000000000000000000000000000000000 / 2 ^ (3 * k) ≤ (c - 1000000000000000000) % 10000000000000000000000000000000000000000 := Int.ediv_le_self _ (Int.emod_nonneg _ (by decide))
    have n2 : (c - 1000000000000000000) % 10000000000000000000000000000000000000000 < 10000000000000000000000000000000000000000 := Int.emod_lt_of_pos _ (by decide)
    refine ⟨((c - 1000000000000000000) % 10000000000000000000000000000000000000000 / 2 ^ (3 * k)).toNat, by omega, ?_⟩
    rw [Int.toNat_of_nonneg nn]
    exact e
  · have r0 : 0 ≤ c % 1000000000000000000 := Int.emod_nonneg _ (by decide)
    have r1 : c % 1000000000000000000 < 1000000000000000000 := Int.emod_lt_of_pos _ (by decide)
    generalize hr : c % 1000000000000000000 = r at r0 r1
    have q1 := mul_lt' (n := 1100000000000000000) (a := r + 977 * (k : Int)) (b := r + 31 * (k : Int) + 5) (by omega) (by omega) (by omega) (by omega)
    have q2 := mul_lt' (n := 1100000000000000000) (a := r + 31 * (k : Int)) (b := r + 7) (by omega) (by omega) (by omega) (by omega)
    have q3 : 0 ≤ (r + 977 * (k : Int)) * (r + 31 * (k : Int) + 5) := Int.mul_nonneg (by omega) (by omega)
    have q4 : 0 ≤ (r + 31 * (k : Int)) * (r + 7) := Int.mul_nonneg (by omega) (by omega)
    obtain ⟨v, v0, v1, v2⟩ := draw_ok (c := (r + 977 * (k : Int)) * (r + 31 * (k : Int) + 5)) (k := k % 9 + 1) (m := 999983) (by decide) (abs_lt (n := 1300000000000000000000000000000000000) (by omega) (by omega) (by decide)) (by omega)
    obtain ⟨u, u0, u1, u2⟩ := draw_ok (c := (r + 31 * (k : Int)) * (r + 7) + 977 * (k : Int)) (k := k % 7 + 2) (m := 1000003) (by decide) (abs_lt (n := 1300000000000000000000000000000000000) (by omega) (by omega) (by decide)) (by omega)
    have c1 : (((k % 9 + 1 : Nat)) : Int) = (k : Int) % 9 + 1 := by omega
    have c2 : (((k % 7 + 2 : Nat)) : Int) = (k : Int) % 7 + 2 := by omega
    rw [c1] at v2
    rw [c2] at u2
    refine ⟨(v * 1000003 + u).toNat, by omega, ?_⟩
    rw [Int.toNat_of_nonneg (by omega)]
    have m1 : ∀ (i : Int) (t : Tau), t[1]? = some (some (O.int (k : Int))) → 0 ≤ i → i < 1100000000000000000 → bFz (vBin .Mult (bFz (vC (.int i))) (bVar 1)) t = some (.int (i * (k : Int))) := fun i t ht h0 h1 => e_fz (e_bin rfl (by unfold bVar; rw [ht]; rfl) (mul_e (mul_ok (sm _ h0 h1) kk)))
    refine fn_rt rfl (seq_go (if_f (e_T ((e_cmp rfl (p18 _) (ge_e _ _)).trans (by rw [decide_eq_false h]))) rfl) (seq_go (t' := [some (.int c), some (.int (k : Int)), some (.int r), none]) ((e_asg (e_bin rfl (p18 _) (mod_e (by decide)))).trans (by rw [hr]; rfl)) (seq_go (t' := [some (.int c), some (.int (k : Int)), some (.int r), some (.int v)]) (e_asg (e_call (as_t (a_np (e_bin (e_fz (e_bin rfl (m1 _ _ rfl (by decide) (by decide)) (add_e _ _))) (e_fz (e_bin (e_fz (e_bin rfl (m1 _ _ rfl (by decide) (by decide)) (add_e _ _))) rfl (add_e _ _))) (mul_e (mul_ok (sm _ ?_ ?_) (sm _ ?_ ?_))))) (as_t (a_np (e_bin (e_fz (e_bin rfl rfl (mod_e (by decide)))) rfl (add_e _ _))) (as_t (a_np rfl) as_0))) v2)) (seq_rt (e_ret (e_bin (e_fz (e_bin rfl rfl (mul_e (mul_ok (sm _ ?_ ?_) (sm _ (by decide) (by decide)))))) (e_fz (e_call (as_t (a_np (e_bin (e_fz (e_bin (e_fz (e_bin rfl (m1 _ _ rfl (by decide) (by decide)) (add_e _ _))) (e_fz (e_bin rfl rfl (add_e _ _))) (mul_e (mul_ok (sm _ ?_ ?_) (sm _ ?_ ?_))))) (m1 _ _ rfl (by decide) (by decide)) (add_e _ _))) (as_t (a_np (e_bin (e_fz (e_bin rfl rfl (mod_e (by decide)))) rfl (add_e _ _))) (as_t (a_np rfl) as_0))) u2)) (add_e _ _)))))))
    all_goals omega
/-- a value drawn from a cell -/
noncomputable def lv (c : Int) (k : Nat) : Nat := (((F__law_value [.int c, .int (k : Int)]).bind O.int?).getD 0).toNat
theorem value_ok (c : Int) {k : Nat} (hk : k ≤ 1000) : F__law_value [.int c, .int (k : Int)] = some (.int (lv c k : Int)) := by
  obtain ⟨v, _, hv⟩ := value_ex c hk
  unfold lv
  rw [hv]
  rfl
theorem lv_le (c : Int) {k : Nat} (hk : k ≤ 1000) : lv c k ≤ 10000000000000000000000000000000000000000 := by
  obtain ⟨v, h, hv⟩ := value_ex c hk
  have e : lv c k = v := by
    unfold lv
    rw [hv]
    rfl
  omega
theorem modulus_ex (n : Nat) : ∃ m : Int, 1 ≤ m ∧ m ≤ 1000 ∧ F__law_modulus [.int (n : Int)] = some (.int m) := by
  have dv : ∀ (j : Int) (t : Tau), 0 < j → bVar 0 t = some (.int (n : Int)) → bFz (vBin .Mod (bFz (vBin .FloorDiv (bVar 0) (bFz (vC (.int 5))))) (bFz (vC (.int j)))) t = some (.int ((n : Int) / 5 % j)) := fun j t hj ht => e_fz (e_bin (e_fz (e_bin ht rfl (div_e (by decide) (by decide)))) rfl (mod_e hj))
  obtain ⟨p, p1, p2, p3⟩ := pick (ds := [.int 2, .int 3, .int 5, .int 7, .int 11, .int 13, .int 101, .int 499, .int 997]) (lo := 1) (hi := 1000) rfl (j := (n : Int) / 5 % 9) (by omega) (by show _ < (9 : Int); omega)
  obtain ⟨q, q1, q2, q3⟩ := pick (ds := [.int 4, .int 8, .int 9, .int 27, .int 64, .int 125, .int 512, .int 729, .int 343]) (lo := 1) (hi := 1000) rfl (j := (n : Int) / 5 % 9) (by omega) (by show _ < (9 : Int); omega)
  have a0 : (1 : Int) ≤ 1 + (n : Int) / 5 % 12 ∧ 1 + (n : Int) / 5 % 12 ≤ 1000 := by omega
  have a1 : (1 : Int) ≤ 1 + (n : Int) / 5 % 1000 ∧ 1 + (n : Int) / 5 % 1000 ≤ 1000 := by omega
  have e1 : ((n : Int) / 5 % 12) = (n : Int) / 5 % 12 := rfl
  generalize hx : 1 + (n : Int) / 5 % 12 = x at a0
  generalize hy : 1 + (n : Int) / 5 % 1000 = y at a1
  obtain ⟨r, r1, r2, r3⟩ := pick (ds := [.int x, .int p, .int 16, .int q, .int y]) (lo := 1) (hi := 1000) (by simp [inR, D.int?, a0, a1, p1, p2, q1, q2]) (j := (n : Int) % 5) (by omega) (by show _ < (5 : Int); omega)
  refine ⟨r, r1, r2, fn_rt rfl (seq_go (t' := [some (.int (n : Int)), some (.nd .tup [.int x, .int p, .int 16])]) (e_asg ?_) (seq_go (t' := [some (.int (n : Int)), some (.nd .tup [.int x, .int p, .int 16, .int q, .int y])]) (e_asg ?_) (seq_rt (e_ret (e_of (e_ix rfl (e_fz (e_bin rfl rfl (mod_e (by decide)))) r3))))))⟩
  · refine e_nd (all_1 (o := .int x) ?_ (all_1 (e_of (e_ix rfl (dv 9 _ (by decide) rfl) p3)) (all_1 (e_bin rfl rfl (pow_e (i := 2) (j := 4) (by decide) (by decide))) all_0))) (show 3 ≤ big by decide)
    rw [← hx]
    exact e_bin rfl (dv 12 _ (by decide) rfl) (add_e _ _)
  · refine e_bin (o := .nd .tup [.int x, .int p, .int 16, .int q, .int y]) rfl (e_fz (e_nd (all_1 (e_of (e_ix rfl (dv 9 _ (by decide) rfl) q3)) (all_1 (o := .int y) ?_ all_0)) (show 2 ≤ big by decide))) rfl
    rw [← hy]
    exact e_bin rfl (dv 1000 _ (by decide) rfl) (add_e _ _)
noncomputable def lm (n : Nat) : Int := ((F__law_modulus [.int (n : Int)]).bind O.int?).getD 0
theorem modulus_ok (n : Nat) : F__law_modulus [.int (n : Int)] = some (.int (lm n)) ∧ 1 ≤ lm n ∧ lm n ≤ 1000 := by
  obtain ⟨m, h1, h2, h3⟩ := modulus_ex n
  have : lm n = m := by unfold lm; rw [h3]; rfl
  rw [this]
  exact ⟨h3, h1, h2⟩

theorem cut1 {α : Type} (xs : List α) : cut xs (some 1) none = xs.drop 1 := by
  unfold cut
  rw [show HT.sIx xs.length 0 (some 1) = min 1 xs.length from HT.sIx_nat _ _ 1, HT.sIx_none]
  cases xs with
  | nil => rfl
  | cons a r =>
    rw [show min 1 (a :: r).length = 1 from by simp]
    apply List.take_of_length_le
    rw [List.length_drop]
    exact Nat.le_refl _
theorem wheel_1 (m : Int) (ws : List Int) : (O.val (.wheel m ws)).child 1 = some (.val (.ints ws)) := by
  show (atI [D.int m, D.ints ws] 1).map O.val = _
  rw [atI1]
  rfl
theorem law_copy_ok (m : Int) (ws : List Int) : F__law_copy [.val (.wheel m ws)] = some (.nd .tup [.int m, .ints ws]) :=
  fn_rt rfl (seq_rt (e_ret (e_nd (all_1 (e_of (e_ix rfl rfl (wheel_m m ws))) (all_1 (e_v1 (e_ix rfl rfl (wheel_1 m ws)) (list_ints ws)) all_0)) (show 2 ≤ big by decide))))
theorem law_whole_int (i : Int) : F__law_whole [.int i] = some (.bl true) := by
  unfold F__law_whole B__law_whole
  walk_at "den"
theorem law_numbers_ok {m : Int} {n : Nat} {xs : List Int} (h : Ok m n xs) (hn : n ≤ big) : F__law_numbers [.val (.ints xs), .int m, .int (n : Int)] = some (.bl true) := by
  have hl : xs.length = n := h.len
  refine fn_rt rfl (seq_go (if_f ?_ rfl) (seq_rt (e_ret (e_v1 (e_fz (vLc_map (xs := xs) (φ := D.int) (ψ := fun x => D.bl (decide (0 ≤ x) && decide (x < m))) rfl (by rw [hl]; exact hn) ?_)) ?_))))
  · walk_at "den"
    rw [hl]
    walk_at "den"
  · intro x hx
    walk_at "den"
    simp only [law_whole_int]
    walk_at "den"
    by_cases h : 0 ≤ x
    · simp only [h]
      walk_at "den"
    · simp only [h]
      walk_at "den"
  · walk_at "den"
    rw [List.all_map]
    show some (O.bl (xs.all fun x => decide (0 ≤ x) && decide (x < m))) = _
    rw [all_rng h.rng]
theorem step_go {a b c d : Option O} {m : Int} (hm : m ≤ 1000) : ∀ (ps : List (Int × Int)) (acc : Int) (x y : Option O), (∀ p ∈ ps, (0 ≤ p.1 ∧ p.1 < m) ∧ (0 ≤ p.2 ∧ p.2 < m)) → ∃ x' y', forIn' (gT [5, 6]) (sSeq (sAsg 4 (vBin .Add (bVar 4) (bFz (vBin .Mult (bVar 5) (bVar 6))))) sNext) (ps.map fun p => D.nd .tup [D.int p.1, D.int p.2]) [a, b, c, d, some (.int acc), x, y] = some (.nx [a, b, c, d, some (.int (acc + (ps.map fun p => p.1 * p.2).sum)), x', y'])
  | [], acc, x, y, _ => ⟨x, y, by rw [show acc + (([] : List (Int × Int)).map fun p => p.1 * p.2).sum = acc from Int.add_zero acc]; rfl⟩
  | p :: ps, acc, x, y, h => by
    have hp := h p List.mem_cons_self
    obtain ⟨x', y', ih⟩ := step_go (a := a) (b := b) (c := c) (d := d) hm ps (acc + p.1 * p.2) (some (.int p.1)) (some (.int p.2)) fun q hq => h q (List.mem_cons_of_mem _ hq)
    refine ⟨x', y', ?_⟩
    rw [List.map_cons]
    unfold forIn'
    rw [show gT [5, 6] (D.nd .tup [D.int p.1, D.int p.2]) [a, b, c, d, some (.int acc), x, y] = some [a, b, c, d, some (.int acc), some (.int p.1), some (.int p.2)] from rfl, ob]
    rw [seq_go (t' := [a, b, c, d, some (.int (acc + p.1 * p.2)), some (.int p.1), some (.int p.2)]) (e_asg (e_bin rfl (e_fz (e_bin rfl rfl (mul_e (mul_ok (abs_small hp.1 (by omega)) (abs_small hp.2 (by omega)))))) (add_e _ _))) rfl]
    show forIn' _ _ _ _ = _
    rw [ih, List.map_cons, List.sum_cons, Int.add_assoc]
theorem law_step_ok {m : Int} {ws s : List Int} (h : Wh m ws) (hs : Ok m ws.length s) : F__law_step [.val (.wheel m ws), .val (.ints s)] = some (.ints (stp m ws s)) := by
  have h0 : 0 < m := by have := h.lo; omega
  obtain ⟨x, y, go⟩ := step_go (a := some (.val (.wheel m ws))) (b := some (.val (.ints s))) (c := some (.int m)) (d := some (.val (.ints ws))) h.hi (ws.zip s) 0 none none fun p hp => ⟨h.rng _ (List.of_mem_zip hp).1, hs.rng _ (List.of_mem_zip hp).2⟩
  rw [Int.zero_add] at go
  refine fn_rt rfl (seq_go (t' := [some (.val (.wheel m ws)), some (.val (.ints s)), some (.int m), some (.val (.ints ws)), none, none, none]) rfl (seq_go (t' := [some (.val (.wheel m ws)), some (.val (.ints s)), some (.int m), some (.val (.ints ws)), some (.int 0), none, none]) rfl (seq_go (t' := [some (.val (.wheel m ws)), some (.val (.ints s)), some (.int m), some (.val (.ints ws)), some (.int (dot ws s)), x, y]) (e_for (ds := (ws.zip s).map fun p => D.nd .tup [D.int p.1, D.int p.2]) ?_ go) (seq_rt (e_ret ?_)))))
  · exact congrArg some (zip_ints ws s)
  · refine (e_bin (e_fz (x := .ints (s.drop 1)) ?_) (e_fz (e_nd (all_1 (e_bin rfl rfl (mod_e h0)) all_0) (show 1 ≤ big by decide))) (cat_e (xs := (s.drop 1).map D.int) (ys := [D.int (dot ws s % m)]) ?_ rfl ?_)).trans ?_
    · unfold vSl
      show (dSl (O.val (.ints s)) (some 1) none) = _
      show some (O.nd .lst ((cut (s.map D.int) (some 1) none).map O.val)) = _
      rw [cut1, ← List.map_drop, List.map_map]
      rfl
    · rw [toD_ints]
      rfl
    · rw [List.length_map, List.length_drop, hs.len]
      have := h.most
      show ws.length - 1 + 1 ≤ 100000
      omega
    · unfold stp
      rw [show [D.int (dot ws s % m)] = [dot ws s % m].map D.int from rfl, ← List.map_append, List.map_map]
      rfl
theorem map_getD_ofNat {f : Nat → Int} (n : Nat) : O.nd .lst ((List.range n).map fun (i : Nat) => O.val (D.int (f i))) = .ints ((List.range n).map f) := by
  show _ = O.nd .lst (((List.range n).map f).map O.int)
  rw [List.map_map]
  rfl
theorem law_wheel_ok (ns : List Int) (by' most : Nat) (h1 : 1 ≤ most) (h4 : most ≤ 4) : ∃ m ws b, Wh m ws ∧ Ok m ws.length b ∧ ws.length ≤ most ∧ F__law_wheel [.val (.ints ns), .int (by' : Int), .int (most : Int)] = some (.nd .tup [.nd .tup [.int m, .val (.ints ws)], .val (.ints b)]) := by
  obtain ⟨m1, m2, m3⟩ := modulus_ok (lv (ns.getD by' 0) 1)
  generalize hc : ns.getD by' 0 = c at m1 m2 m3
  generalize hm : lm (lv c 1) = m at m1 m2 m3
  have hmm : (0 : Int) < (most : Int) := by omega
  have n1 : lv c 2 % most < most := Nat.mod_lt _ (by omega)
  generalize hn : 1 + lv c 2 % most = n
  have n2 : n ≤ most := by omega
  have n3 : 1 ≤ n := by omega
  have val : ∀ (k : Nat) (t : Tau) (e : VE) (r : List AE), k ≤ 1000 → aAll (e |> fun e => [(aPl (bVar 3)), (aNp (vC (.int (k : Int))))]) t = some ([.int c, .int (k : Int)], true) → vCall F__law_value [(aPl (bVar 3)), (aNp (vC (.int (k : Int))))] t = some (.int (lv c k : Int)) := fun k t e r hk h => e_call h (value_ok c hk)
  have va : ∀ (k : Nat) (t : Tau), k ≤ 1000 → bVar 3 t = some (.int c) → vCall F__law_value [(aPl (bVar 3)), (aNp (vC (.int (k : Int))))] t = some (.int (lv c k : Int)) := fun k t hk h => e_call (as_t (a_pl h) (as_t (a_np rfl) as_0)) (value_ok c hk)
  -- a row of numbers
  have row : ∀ (q r : Nat) (t : Tau), 0 < q → q ≤ 100 → r ≤ 100 → bVar 5 t = some (.int (n : Int)) → bVar 0 t = some (.val (.ints ns)) → bVar 1 t = some (.int (by' : Int)) → bVar 4 t = some (.int m) → t.length = 9 →
      vLc (wRange1 (bVar 5)) [7] (gN 7) bYes (vBin .Mod (bFz (vCall F__law_value [(aNp (vCall F__law_cell_at [(aPl (bVar 0)), (aNp (vBin .Add (bVar 1) (bFz (vBin .Mod (bVar 7) (bFz (vC (.int (q : Int))))))))])), (aNp (vBin .Add (bVar 7) (bFz (vC (.int (r : Int))))))])) (bVar 4)) t = some (.ints ((List.range n).map fun (i : Nat) => (lv (ns.getD (by' + i % q) 0) (i + r) : Int) % m)) := by
    intro q r t hq hq2 hr t5 t0 t1 t4 tl
    rw [vLc_map (xs := List.range n) (φ := fun (i : Nat) => D.int (i : Int)) (ψ := fun (i : Nat) => D.int ((lv (ns.getD (by' + i % q) 0) (i + r) : Int) % m)) (wr1 t5 (Nat.le_trans n2 (Nat.le_trans h4 (by decide)))) (by rw [List.length_range]; exact Nat.le_trans n2 (Nat.le_trans h4 (by decide)))]
    · rw [map_getD_ofNat]
    · intro i hi
      have hi : i < n := List.mem_range.mp hi
      obtain ⟨t', ht'⟩ : ∃ t' : Tau, gN 7 (D.int (i : Int)) (wipeT t [7]) = some t' ∧ bVar 7 t' = some (.int (i : Int)) ∧ bVar 0 t' = some (.val (.ints ns)) ∧ bVar 1 t' = some (.int (by' : Int)) ∧ bVar 4 t' = some (.int m) := by
        refine ⟨_, rfl, ?_, ?_, ?_, ?_⟩
        · unfold bVar
          rw [List.getElem?_set_self (by show 7 < (t.set 7 none).length; rw [List.length_set, tl]; decide)]
          rfl
        all_goals
          unfold bVar
          rw [List.getElem?_set_ne (by decide)]
          show ((t.set 7 none)[_]?).join = _
          rw [List.getElem?_set_ne (by decide)]
          assumption
      obtain ⟨g, u7, u0, u1, u4⟩ := ht'
      have c1 : (by' : Int) + (i : Int) % (q : Int) = ((by' + i % q : Nat) : Int) := by rw [Int.natCast_add, Int.natCast_emod]
      have c2 : (i : Int) + (r : Int) = ((i + r : Nat) : Int) := by rw [Int.natCast_add]
      refine el g (e_bin (e_fz (e_call (as_t (a_np (e_call (as_t (a_pl u0) (as_t (a_np (o := .int ((by' + i % q : Nat) : Int)) (e_bin u1 (e_fz (e_bin u7 rfl (mod_e (by omega)))) (by rw [← c1]; rfl))) as_0)) (cell_at_ok _ _))) (as_t (a_np (o := .int ((i + r : Nat) : Int)) (e_bin u7 rfl (by rw [← c2]; rfl))) as_0)) (value_ok _ (by omega)))) u4 (mod_e (by omega)))
  have ok : ∀ f : Nat → Int, Ok m n ((List.range n).map fun i => f i % m) := fun f => ⟨by rw [List.length_map, List.length_range], fun x hx => by
    obtain ⟨i, _, rfl⟩ := List.mem_map.mp hx
    exact ⟨Int.emod_nonneg _ (by omega), Int.emod_lt_of_pos _ (by omega)⟩⟩
  have w0 := ok fun (i : Nat) => (lv (ns.getD (by' + i % 2) 0) (i + 3) : Int)
  have b0 := ok fun (i : Nat) => (lv (ns.getD (by' + i % 3) 0) (i + 10) : Int)
  generalize hw : ((List.range n).map fun (i : Nat) => (lv (ns.getD (by' + i % 2) 0) (i + 3) : Int) % m) = w at w0
  generalize hb : ((List.range n).map fun (i : Nat) => (lv (ns.getD (by' + i % 3) 0) (i + 10) : Int) % m) = b at b0
  -- the middle row
  have mid : ∃ w', Ok m n w' ∧ sIf (bT (vCmp .Eq (bFz (vBin .Mod (bFz (vCall F__law_value [(aPl (bVar 3)), (aNp (vC (.int 8)))])) (bFz (vC (.int 3))))) (bFz (vC (.int 0))))) (sSeq (sPut 6 [] (bFz (vC (.int 0))) (vBin .Mod (bFz (vBin .Mult (bIx (bVar 6) (bFz (vC (.int 0)))) (bIx (bFz (vNd .tup [(vC (.int 2)), (vC (.int 6)), (vC (.int 0))])) (bFz (vBin .Mod (bFz (vCall F__law_value [(aPl (bVar 3)), (aNp (vC (.int 9)))])) (bFz (vC (.int 3)))))))) (bVar 4))) sNext) sNext
      [some (.val (.ints ns)), some (.int (by' : Int)), some (.int (most : Int)), some (.int c), some (.int m), some (.int (n : Int)), some (.ints w), none, none] = some (.nx [some (.val (.ints ns)), some (.int (by' : Int)), some (.int (most : Int)), some (.int c), some (.int m), some (.int (n : Int)), some (.ints w'), none, none]) := by
    have cnd := e_cmp (op := .Eq) (e_fz (e_bin (op := .Mod) (e_fz (va 8 [some (.val (.ints ns)), some (.int (by' : Int)), some (.int (most : Int)), some (.int c), some (.int m), some (.int (n : Int)), some (.ints w), none, none] (by decide) rfl)) (b := bFz (vC (.int 3))) rfl (mod_e (by decide)))) (b := bFz (vC (.int 0))) rfl (eq_e _ _)
    by_cases h : (lv c 8 : Int) % 3 = 0
    · obtain ⟨p, p1, p2, p3⟩ := pick (ds := [.int 2, .int 6, .int 0]) (lo := 0) (hi := 6) rfl (j := (lv c 9 : Int) % 3) (by omega) (by show _ < (3 : Int); omega)
      have hw0 : 0 < w.length := by rw [w0.len]; omega
      have g0 : 0 ≤ w.getD 0 0 ∧ w.getD 0 0 < m := by
        rw [List.getD_eq_getElem?_getD, List.getElem?_eq_getElem hw0]
        exact w0.rng _ (List.getElem_mem hw0)
      refine ⟨w.set 0 (w.getD 0 0 * p % m), ⟨by rw [List.length_set, w0.len], fun x hx => ?_⟩, if_t (e_T (cnd.trans (by rw [decide_eq_true h]))) (seq_go ((put_e (m := 0) (e_bin (e_fz (e_bin (e_ix (x := .ints w) (j := 0) (o := .int (w.getD 0 0)) rfl rfl ?_) (e_ix (x := .val (.nd .tup [.int 2, .int 6, .int 0])) rfl (e_fz (e_bin (e_fz (va 9 _ (by decide) rfl)) rfl (mod_e (by decide)))) p3) (mul_e ?_))) rfl (mod_e (by omega))) rfl rfl (by rw [List.length_map]; exact hw0)).trans ?_) rfl)⟩
      · rcases List.mem_or_eq_of_mem_set hx with h' | rfl
        · exact w0.rng x h'
        · exact ⟨Int.emod_nonneg _ (by omega), Int.emod_lt_of_pos _ (by omega)⟩
      · show atI (w.map O.int) 0 = _
        refine atI_nat (j := 0) (v := O.int (w.getD 0 0)) ?_
        rw [List.getElem?_map, List.getD_eq_getElem?_getD, List.getElem?_eq_getElem hw0]
        rfl
      · exact mul_ok (abs_small g0 (by omega)) (abs_small (m := 7) (by omega) (by decide))
      · show some (Out.nx [_, _, _, _, _, _, some (.nd .lst ((w.map O.int).set 0 (O.int (w.getD 0 0 * p % m)))), _, _]) = some (Out.nx [_, _, _, _, _, _, some (.nd .lst ((w.set 0 (w.getD 0 0 * p % m)).map O.int)), _, _])
        rw [List.map_set]
    · exact ⟨w, w0, if_f (e_T (cnd.trans (by rw [decide_eq_false h]))) rfl⟩
  obtain ⟨w', ok', mid⟩ := mid
  have hwl : w'.length = n := ok'.len
  refine ⟨m, w', b, ⟨m2, m3, ok'.rng, by omega, by omega⟩, by rw [hwl]; exact b0, by omega, ?_⟩
  refine fn_rt rfl (seq_go (t' := [some (.val (.ints ns)), some (.int (by' : Int)), some (.int (most : Int)), some (.int c), none, none, none, none, none]) (e_asg (e_call (as_t (a_pl rfl) (as_t (a_pl rfl) as_0)) (by rw [← hc]; exact cell_at_ok ns by'))) (seq_go (t' := [some (.val (.ints ns)), some (.int (by' : Int)), some (.int (most : Int)), some (.int c), some (.int m), some (.int (n : Int)), none, none, none]) (par_e (all_1 (e_call (as_t (a_np (va 1 _ (by decide) rfl)) as_0) m1) (all_1 (o := .int (n : Int)) (e_bin rfl (e_fz (e_bin (e_fz (va 2 _ (by decide) rfl)) rfl (mod_e hmm))) ?_) all_0)) rfl) (seq_go (t' := [some (.val (.ints ns)), some (.int (by' : Int)), some (.int (most : Int)), some (.int c), some (.int m), some (.int (n : Int)), some (.ints w), none, none]) ?_ (seq_go mid (seq_go (t' := [some (.val (.ints ns)), some (.int (by' : Int)), some (.int (most : Int)), some (.int c), some (.int m), some (.int (n : Int)), some (.ints w'), none, some (.ints b)]) ?_ (seq_rt (e_ret ?_)))))))
  · rw [← hn]
    show some (O.int (1 + (lv c 2 : Int) % (most : Int))) = _
    congr 3
  · refine e_asg (t := [some (.val (.ints ns)), some (.int (by' : Int)), some (.int (most : Int)), some (.int c), some (.int m), some (.int (n : Int)), none, none, none]) (i := 6) (o := .ints w) ?_
    rw [← hw]
    exact row 2 3 _ (by decide) (by decide) (by decide) rfl rfl rfl rfl rfl
  · refine e_asg (t := [some (.val (.ints ns)), some (.int (by' : Int)), some (.int (most : Int)), some (.int c), some (.int m), some (.int (n : Int)), some (.ints w'), none, none]) (i := 8) (o := .ints b) ?_
    rw [← hb]
    exact row 3 10 _ (by decide) (by decide) (by decide) rfl rfl rfl rfl rfl
  · have e : fzAll [some (.val (.ints ns)), some (.int (by' : Int)), some (.int (most : Int)), some (.int c), some (.int m), some (.int (n : Int)), some (.ints w'), none, some (.ints b)] = [some (.val (.ints ns)), some (.int (by' : Int)), some (.int (most : Int)), some (.int c), some (.int m), some (.int (n : Int)), some (.val (.ints w')), none, some (.val (.ints b))] := by
      show [_, _, _, _, _, _, some (O.val (O.ints w').toD), _, some (O.val (O.ints b).toD)] = _
      rw [toD_ints, toD_ints]
      rfl
    rw [e]
    exact e_nd (all_1 (e_nd (all_1 (e_of rfl) (all_1 (e_of rfl) all_0)) (show 2 ≤ big by decide)) (all_1 (e_of rfl) all_0)) (show 2 ≤ big by decide)
theorem fits_of {i : Int} (h0 : -1000000000000 ≤ i) (h1 : i ≤ 1000000000000) : Builtin.Range.rangeFitsLong i = true := by
  unfold Builtin.Range.rangeFitsLong
  rw [decide_eq_true (by omega), decide_eq_true (by omega)]
  rfl
/-- range with a step, upward -/
theorem wr3 {a b c : VE} {t : Tau} {i j k : Int} (ha : a t = some (.int i)) (hb : b t = some (.int j)) (hc : c t = some (.int k)) (i0 : 0 ≤ i) (i1 : i ≤ 1000000000) (j0 : 0 ≤ j) (j1 : j ≤ 1000000000) (k0 : 0 < k) (k1 : k ≤ 1000000000) :
    ∃ N : Nat, (∀ m : Nat, m < N → i + (m : Int) * k < j) ∧ (i < j → 0 < N) ∧ wRange3 a b c t = some ((List.range N).map fun (m : Nat) => D.int (i + (m : Int) * k)) := by
  have sz : 0 ≤ Builtin.Range.rangeSize i j k ∧ Builtin.Range.rangeSize i j k ≤ 1000000001 := by
    unfold Builtin.Range.rangeSize
    rw [if_pos k0]
    split
    · have h1 : 0 ≤ (j - i - 1) / k := Int.ediv_nonneg (by omega) (by omega)
      have h2 : (j - i - 1) / k ≤ j - i - 1 := Int.ediv_le_self _ (by omega)
      omega
    · omega
  refine ⟨(Builtin.Range.rangeSize i j k).toNat, fun m hm => ?_, fun h => ?_, ?_⟩
  · have hm' : (m : Int) < Builtin.Range.rangeSize i j k := by omega
    unfold Builtin.Range.rangeSize at hm'
    rw [if_pos k0] at hm'
    split at hm'
    · have h1 : (m : Int) ≤ (j - i - 1) / k := by omega
      have h2 : (m : Int) * k ≤ (j - i - 1) / k * k := Int.mul_le_mul_of_nonneg_right h1 (by omega)
      have h3 : (j - i - 1) / k * k ≤ j - i - 1 := Int.ediv_mul_le _ (by omega)
      omega
    · omega
  · have : 0 < Builtin.Range.rangeSize i j k := by
      unfold Builtin.Range.rangeSize
      rw [if_pos k0, if_pos h]
      have h1 : 0 ≤ (j - i - 1) / k := Int.ediv_nonneg (by omega) (by omega)
      omega
    omega
  · unfold wRange3
    rw [ha, ob, hb, ob, hc, ob, show (O.int i).int? = some i from rfl, ob, show (O.int j).int? = some j from rfl, ob, show (O.int k).int? = some k from rfl, ob, if_pos]
    refine ⟨by omega, by omega, ?_, sz.1⟩
    unfold Builtin.Range.small
    rw [fits_of (by omega) (by omega), fits_of (by omega) (by omega), fits_of (by omega) (by omega), fits_of (by omega) (by omega), if_pos k0, fits_of (by omega) (by omega)]
    simp
theorem child_oints {r : List Int} {j : Nat} (h : j < r.length) : (O.ints r).child (j : Int) = some (.int (r.getD j 0)) := by
  show atI (r.map O.int) (j : Int) = _
  refine atI_nat ?_
  rw [List.getElem?_map, List.getElem?_eq_getElem h, List.getD_eq_getElem?_getD, List.getElem?_eq_getElem h]
  rfl
theorem dEq_ii (a b : List Int) : dEq (O.ints a).toD (O.ints b).toD = some (decide (a = b)) := by
  rw [toD_ints, toD_ints, dEq_ints]
theorem dEq_pair (m : Int) (ws b : List Int) : dEq (.nd .lst [.wheel m ws, .ints b]) (.nd .lst [.wheel m ws, .ints b]) = some true := by
  have hs : (D.nd .lst [.wheel m ws, .ints b]).simple 60 = true := by
    simp [D.simple, D.simples, simples_ints]
  rw [dEq_of hs hs]
  simp [D.toPy, D.toPys, PyData.eqv, PyData.eqvAll, toPys_ints, eqvAll_ints]
theorem bOr_f {a b : BE} {t : Tau} {r : Option Bool} (h : a t = some false) (h2 : b t = r) : bOr a b t = r := by
  unfold bOr
  rw [h, ob, if_neg (by decide)]
  exact h2
theorem bNot_e {a : BE} {t : Tau} {k : Bool} (h : a t = some k) : bNot a t = some (!k) := by
  unfold bNot
  rw [h]
  rfl
theorem bNot_t {a : BE} {t : Tau} (h : a t = some true) : bNot a t = some false := bNot_e h
theorem e_Tz {a : VE} {t : Tau} {k : Bool} (h : a t = some (.bl k)) : bT (bFz a) t = some k := e_T (e_fz h)
theorem e_and_t {a b : VE} {t : Tau} {r : Option O} (h : a t = some (.bl true)) (h2 : b t = r) : vAnd a b t = r := by
  unfold vAnd
  rw [h, ob, show (O.bl true).bl? = some true from rfl, ob, if_pos rfl]
  exact h2
end Den

/-! M1: how often each first number is taken: shares of a row, put together. -/
namespace Mt
def Cg (m x y : Int) : Prop := m ∣ x - y
theorem Cg.rfl' {m x : Int} : Cg m x x := ⟨0, by omega⟩
theorem Cg.of_eq {m x y : Int} (h : x = y) : Cg m x y := by subst h; exact Cg.rfl'
theorem Cg.symm {m x y : Int} (h : Cg m x y) : Cg m y x := by
  obtain ⟨k, hk⟩ := h
  exact ⟨-k, by rw [Int.mul_neg]; omega⟩
theorem Cg.trans {m x y z : Int} (h : Cg m x y) (k : Cg m y z) : Cg m x z := by
  obtain ⟨a, ha⟩ := h
  obtain ⟨b, hb⟩ := k
  exact ⟨a + b, by rw [Int.mul_add]; omega⟩
theorem Cg.add {m x y z w : Int} (h : Cg m x y) (k : Cg m z w) : Cg m (x + z) (y + w) := by
  obtain ⟨a, ha⟩ := h
  obtain ⟨b, hb⟩ := k
  exact ⟨a + b, by rw [Int.mul_add]; omega⟩
theorem Cg.mul {m x y : Int} (c : Int) (h : Cg m x y) : Cg m (c * x) (c * y) := by
  obtain ⟨a, ha⟩ := h
  exact ⟨c * a, by rw [← Int.mul_sub, ha, Int.mul_left_comm]⟩
theorem Cg.mul' {m x y : Int} (c : Int) (h : Cg m x y) : Cg m (x * c) (y * c) := by
  rw [Int.mul_comm x, Int.mul_comm y]
  exact h.mul c
theorem Cg.mod (m x : Int) : Cg m (x % m) x := ⟨-(x / m), by
  have := Int.emod_add_mul_ediv x m
  rw [Int.mul_neg]
  omega⟩
theorem Cg.emod {m x y : Int} (h : Cg m x y) : x % m = y % m := by
  obtain ⟨k, hk⟩ := h
  have : x = y + m * k := by omega
  rw [this, Int.add_mul_emod_self_left]
theorem Cg.of_emod {m x y : Int} (h : x % m = y % m) : Cg m x y := ((Cg.mod m x).symm.trans (Cg.of_eq h)).trans (Cg.mod m y)
/-- shares of a row from o on -/
def ev (a : Nat → Int) : List Int → Nat → Int
  | [], _ => 0
  | x :: p, o => x * a o + ev a p (o + 1)
theorem ev_cg {m : Int} {a b : Nat → Int} (h : ∀ i, Cg m (a i) (b i)) : ∀ (p : List Int) (o : Nat), Cg m (ev a p o) (ev b p o)
  | [], _ => Cg.rfl'
  | x :: p, o => ((h o).mul x).add (ev_cg h p (o + 1))
theorem ev_shift (a : Nat → Int) (l : Nat) : ∀ (p : List Int) (o : Nat), ev (fun i => a (l + i)) p o = ev a p (l + o)
  | [], _ => rfl
  | x :: p, o => by
    unfold ev
    rw [ev_shift a l p (o + 1), show l + o + 1 = l + (o + 1) by omega]
theorem ev_set (a : Nat → Int) (x : Int) : ∀ (p : List Int) (k o : Nat), k < p.length → ev a (p.set k x) o = ev a p o + (x - p.getD k 0) * a (o + k)
  | [], k, o, h => by cases h
  | y :: p, 0, o, h => by
    show x * a o + ev a p (o + 1) = y * a o + ev a p (o + 1) + (x - y) * a o
    rw [Int.sub_mul]
    omega
  | y :: p, k + 1, o, h => by
    show y * a o + ev a (p.set k x) (o + 1) = y * a o + ev a p (o + 1) + (x - p.getD k 0) * a (o + (k + 1))
    rw [ev_set a x p k (o + 1) (by simpa using h), show o + 1 + k = o + (k + 1) by omega]
    omega
theorem ev_zero (a : Nat → Int) : ∀ (n o : Nat), ev a (List.replicate n 0) o = 0
  | 0, _ => rfl
  | n + 1, o => by
    rw [List.replicate_succ]
    unfold ev
    rw [ev_zero a n (o + 1)]
    omega
theorem ev_take (a : Nat → Int) : ∀ (p : List Int) (n o : Nat), (∀ k, n ≤ k → p.getD k 0 = 0) → ev a (p.take n) o = ev a p o
  | [], n, o, _ => by rw [List.take_nil]
  | x :: p, 0, o, h => by
    have h0 : x = 0 := h 0 (Nat.le_refl _)
    have := ev_take a p 0 (o + 1) fun k hk => h (k + 1) (by omega)
    rw [List.take_zero] at this ⊢
    show (0 : Int) = x * a o + ev a p (o + 1)
    rw [← this, h0]
    show (0 : Int) = 0 * a o + 0
    omega
  | x :: p, n + 1, o, h => by
    rw [List.take_succ_cons]
    unfold ev
    rw [ev_take a p n (o + 1) fun k hk => h (k + 1) (by omega)]
theorem ev_mod (m : Int) (a : Nat → Int) : ∀ (p : List Int) (o : Nat), Cg m (ev a (p.map (· % m)) o) (ev a p o)
  | [], _ => Cg.rfl'
  | x :: p, o => ((Cg.mod m x).mul' (a o)).add (ev_mod m a p (o + 1))
/-- c times r put in from k on -/
def addAt (c : Int) : List Int → Nat → List Int → List Int
  | f, _, [] => f
  | f, k, x :: r => addAt c (f.set k (f.getD k 0 + c * x)) (k + 1) r
theorem addAt_len (c : Int) : ∀ (r f : List Int) (k : Nat), (addAt c f k r).length = f.length
  | [], f, k => rfl
  | x :: r, f, k => by
    unfold addAt
    rw [addAt_len c r, List.length_set]
theorem addAt_ev (a : Nat → Int) (c : Int) : ∀ (r f : List Int) (k o : Nat), k + r.length ≤ f.length → ev a (addAt c f k r) o = ev a f o + c * ev a r (o + k)
  | [], f, k, o, _ => by
    show ev a f o = ev a f o + c * 0
    omega
  | x :: r, f, k, o, h => by
    have h : k + (r.length + 1) ≤ f.length := h
    unfold addAt
    rw [addAt_ev a c r _ (k + 1) o (by rw [List.length_set]; omega), ev_set a _ f k o (by omega)]
    show ev a f o + (f.getD k 0 + c * x - f.getD k 0) * a (o + k) + c * ev a r (o + (k + 1)) = ev a f o + c * (x * a (o + k) + ev a r (o + k + 1))
    rw [show f.getD k 0 + c * x - f.getD k 0 = c * x by omega, Int.mul_add, Int.mul_assoc, show o + (k + 1) = o + k + 1 by omega]
    omega
theorem getD_set_ne (f : List Int) (x : Int) {k j : Nat} (h : k ≠ j) : (f.set k x).getD j 0 = f.getD j 0 := by
  rw [List.getD_eq_getElem?_getD, List.getD_eq_getElem?_getD, List.getElem?_set_ne h]
theorem getD_set_eq (f : List Int) (x : Int) {k : Nat} (h : k < f.length) : (f.set k x).getD k 0 = x := by
  rw [List.getD_eq_getElem?_getD, List.getElem?_set_self h]
  rfl
theorem addAt_far (c : Int) : ∀ (r f : List Int) (k j : Nat), k + r.length ≤ j → (addAt c f k r).getD j 0 = f.getD j 0
  | [], f, k, j, _ => rfl
  | x :: r, f, k, j, h => by
    have h : k + (r.length + 1) ≤ j := h
    unfold addAt
    rw [addAt_far c r _ (k + 1) j (by omega), getD_set_ne _ _ (by omega)]
/-- all products put in -/
def mul1 (q : List Int) : List Int → Nat → List Int → List Int
  | f, _, [] => f
  | f, i, x :: r => mul1 q (addAt x f i q) (i + 1) r
theorem mul1_len (q : List Int) : ∀ (r f : List Int) (i : Nat), (mul1 q f i r).length = f.length
  | [], f, i => rfl
  | x :: r, f, i => by
    unfold mul1
    rw [mul1_len q r, addAt_len]
theorem mul1_ev (a : Nat → Int) (q : List Int) : ∀ (r f : List Int) (i o : Nat), i + r.length + q.length ≤ f.length + 1 → ev a (mul1 q f i r) o = ev a f o + ev (ev a q) r (o + i)
  | [], f, i, o, _ => by
    show ev a f o = ev a f o + 0
    omega
  | x :: r, f, i, o, h => by
    have h : i + (r.length + 1) + q.length ≤ f.length + 1 := h
    unfold mul1
    rw [mul1_ev a q r _ (i + 1) o (by rw [addAt_len]; omega), addAt_ev a x q f i o (by omega)]
    show ev a f o + x * ev a q (o + i) + ev (ev a q) r (o + (i + 1)) = ev a f o + (x * ev a q (o + i) + ev (ev a q) r (o + i + 1))
    rw [show o + (i + 1) = o + i + 1 by omega]
    omega
/-- the greatest places brought down by the weights -/
def redK (m : Int) (ws : List Int) : Nat → List Int → List Int
  | 0, f => f
  | c + 1, f => redK m ws c ((addAt (f.getD (ws.length + c) 0 % m) f c ws).set (ws.length + c) 0)
theorem redK_len (m : Int) (ws : List Int) : ∀ (c : Nat) (f : List Int), (redK m ws c f).length = f.length
  | 0, f => rfl
  | c + 1, f => by
    unfold redK
    rw [redK_len m ws c, List.length_set, addAt_len]
theorem redK_ev {m : Int} {ws : List Int} {a : Nat → Int} (ha : ∀ i, Cg m (a (i + ws.length)) (ev a ws i)) : ∀ (c : Nat) (f : List Int) (o : Nat), ws.length + c ≤ f.length → (∀ k, ws.length + c ≤ k → f.getD k 0 = 0) →
    Cg m (ev a (redK m ws c f) o) (ev a f o) ∧ ∀ k, ws.length ≤ k → (redK m ws c f).getD k 0 = 0
  | 0, f, o, _, h => ⟨Cg.rfl', fun k hk => h k hk⟩
  | c + 1, f, o, hl, h => by
    obtain ⟨q1, q2⟩ := redK_ev ha c ((addAt (f.getD (ws.length + c) 0 % m) f c ws).set (ws.length + c) 0) o (by rw [List.length_set, addAt_len]; omega) fun k hk => by
      by_cases e : k = ws.length + c
      · rw [e, getD_set_eq _ _ (by rw [addAt_len]; omega)]
      · rw [getD_set_ne _ _ (by omega), addAt_far _ _ _ _ _ (by omega)]
        exact h k (by omega)
    refine ⟨?_, q2⟩
    unfold redK
    refine q1.trans ?_
    rw [ev_set a 0 _ _ o (by rw [addAt_len]; omega), addAt_far _ _ _ _ _ (by omega), addAt_ev a _ ws f c o (by omega)]
    have k1 : Cg m (f.getD (ws.length + c) 0 % m * ev a ws (o + c)) (f.getD (ws.length + c) 0 * a (o + (ws.length + c))) := by
      rw [show o + (ws.length + c) = o + c + ws.length by omega]
      exact ((Cg.mod m _).mul' _).trans ((ha (o + c)).symm.mul _)
    have k2 := (Cg.rfl' (m := m) (x := ev a f o + (0 - f.getD (ws.length + c) 0) * a (o + (ws.length + c)))).add k1
    refine (Cg.of_eq ?_).trans (k2.trans (Cg.of_eq ?_))
    · omega
    · rw [show (0 - f.getD (ws.length + c) 0) = -f.getD (ws.length + c) 0 by omega, Int.neg_mul]
      omega
def mixd (m : Int) (ws p q : List Int) : List Int := ((redK m ws (ws.length - 1) (mul1 q (List.replicate (2 * ws.length - 1) 0) 0 p)).take ws.length).map (· % m)
theorem mixd_len {m : Int} {ws p q : List Int} (h : 1 ≤ ws.length) : (mixd m ws p q).length = ws.length := by
  unfold mixd
  rw [List.length_map, List.length_take, redK_len, mul1_len, List.length_replicate]
  omega
theorem mixd_rng {m : Int} {ws p q : List Int} (hm : 0 < m) : ∀ x ∈ mixd m ws p q, 0 ≤ x ∧ x < m := fun x hx => by
  obtain ⟨y, _, rfl⟩ := List.mem_map.mp hx
  exact ⟨Int.emod_nonneg _ (by omega), Int.emod_lt_of_pos _ hm⟩
/-- p takes the first numbers as often as is due so far on -/
def Tk (m : Int) (n : Nat) (a : Nat → Int) (p : List Int) (k : Nat) : Prop := p.length = n ∧ ∀ o, Cg m (ev a p o) (a (k + o))
theorem mixd_ok {m : Int} {ws p q : List Int} {a : Nat → Int} {k l : Nat} (h1 : 1 ≤ ws.length) (ha : ∀ i, Cg m (a (i + ws.length)) (ev a ws i)) (hp : Tk m ws.length a p k) (hq : Tk m ws.length a q l) : Tk m ws.length a (mixd m ws p q) (k + l) := by
  refine ⟨mixd_len h1, fun o => ?_⟩
  have l1 := hp.1
  have l2 := hq.1
  obtain ⟨z1, z2⟩ := redK_ev ha (ws.length - 1) (mul1 q (List.replicate (2 * ws.length - 1) 0) 0 p) o (by rw [mul1_len, List.length_replicate]; omega) fun k hk => by
    rw [List.getD_eq_getElem?_getD, List.getElem?_eq_none (by rw [mul1_len, List.length_replicate]; omega)]
    rfl
  unfold mixd
  refine (ev_mod m a _ o).trans ?_
  rw [ev_take a _ _ o z2]
  refine z1.trans ?_
  rw [mul1_ev a q p _ 0 o (by rw [List.length_replicate]; omega), ev_zero, Int.zero_add, Nat.add_zero]
  refine (ev_cg (fun i => hq.2 i) p o).trans ?_
  rw [ev_shift a l p o]
  rw [show k + l + o = k + (l + o) by omega]
  exact hp.2 (l + o)
theorem tk_one {m : Int} {n : Nat} (a : Nat → Int) (h : 1 ≤ n) : Tk m n a (1 :: List.replicate (n - 1) 0) 0 := by
  refine ⟨by rw [List.length_cons, List.length_replicate]; omega, fun o => Cg.of_eq ?_⟩
  unfold ev
  rw [ev_zero, Nat.zero_add]
  omega
theorem tk_x {m : Int} {n : Nat} (a : Nat → Int) (h : 1 < n) : Tk m n a (0 :: 1 :: List.replicate (n - 2) 0) 1 := by
  refine ⟨by rw [List.length_cons, List.length_cons, List.length_replicate]; omega, fun o => Cg.of_eq ?_⟩
  unfold ev
  unfold ev
  rw [ev_zero, Nat.add_comm 1 o]
  omega
theorem tk_w {m w : Int} {a : Nat → Int} (ha : ∀ i, Cg m (a (i + 1)) (ev a [w] i)) : Tk m 1 a [w] 1 := ⟨rfl, fun o => by rw [Nat.add_comm 1 o]; exact (ha o).symm⟩
/-! ### the row of a wheel -/
def sq (m : Int) (ws s : List Int) (i : Nat) : Int := (itr (stp m ws) i s).getD 0 0
theorem sq_at {m : Int} {ws s : List Int} (hm : 0 < m) (h1 : 1 ≤ ws.length) (hs : Ok m ws.length s) : ∀ (j i : Nat), j < ws.length → (itr (stp m ws) i s).getD j 0 = sq m ws s (i + j)
  | 0, i, _ => rfl
  | j + 1, i, h => by
    have ok := ok_itr (ws := ws) hm h1 hs i
    have ih := sq_at hm h1 hs j (i + 1) (by omega)
    rw [show i + (j + 1) = i + 1 + j by omega, ← ih, itr_succ]
    generalize itr (stp m ws) i s = u at ok
    show _ = (u.drop 1 ++ [dot ws u % m]).getD j 0
    rw [List.getD_eq_getElem?_getD, List.getD_eq_getElem?_getD, List.getElem?_append_left (by rw [List.length_drop, ok.len]; omega), List.getElem?_drop, Nat.add_comm 1 j]
theorem itr_sq {m : Int} {ws s : List Int} (hm : 0 < m) (h1 : 1 ≤ ws.length) (hs : Ok m ws.length s) (i : Nat) : itr (stp m ws) i s = (List.range ws.length).map fun j => sq m ws s (i + j) := by
  have ok := ok_itr (ws := ws) hm h1 hs i
  have := range_getD (itr (stp m ws) i s)
  rw [ok.len] at this
  rw [← this]
  apply List.map_congr_left
  intro j hj
  exact sq_at hm h1 hs j i (List.mem_range.mp hj)
theorem ev_range (a : Nat → Int) : ∀ (ws : List Int) (i : Nat), ev a ws i = dot ws ((List.range' i ws.length).map a)
  | [], i => rfl
  | w :: ws, i => by
    show w * a i + ev a ws (i + 1) = dot (w :: ws) ((List.range' i (ws.length + 1)).map a)
    rw [List.range'_succ, List.map_cons, dot_cons, ev_range a ws (i + 1)]
theorem sq_next {m : Int} {ws s : List Int} (hm : 0 < m) (h1 : 1 ≤ ws.length) (hs : Ok m ws.length s) (i : Nat) : sq m ws s (i + ws.length) = ev (sq m ws s) ws i % m := by
  have ok := ok_itr (ws := ws) hm h1 hs i
  have e : ev (sq m ws s) ws i = dot ws (itr (stp m ws) i s) := by
    rw [ev_range, itr_sq hm h1 hs]
    congr 1
    rw [List.range'_eq_map_range, List.map_map]
    rfl
  have h := sq_at hm h1 hs (ws.length - 1) (i + 1) (by omega)
  rw [show i + 1 + (ws.length - 1) = i + ws.length by omega] at h
  rw [← h, itr_succ, e]
  generalize itr (stp m ws) i s = u at ok
  show (u.drop 1 ++ [dot ws u % m]).getD _ 0 = _
  rw [List.getD_eq_getElem?_getD, List.getElem?_append_right (by rw [List.length_drop, ok.len]; omega), List.length_drop, ok.len, Nat.sub_self]
  rfl
theorem sq_cg {m : Int} {ws s : List Int} (hm : 0 < m) (h1 : 1 ≤ ws.length) (hs : Ok m ws.length s) (i : Nat) : Cg m (sq m ws s (i + ws.length)) (ev (sq m ws s) ws i) := by
  rw [sq_next hm h1 hs]
  exact Cg.mod m _
theorem sq_rng {m : Int} {ws s : List Int} (hm : 0 < m) (h1 : 1 ≤ ws.length) (hs : Ok m ws.length s) (i : Nat) : 0 ≤ sq m ws s i ∧ sq m ws s i < m := by
  have ok := ok_itr (ws := ws) hm h1 hs i
  unfold sq
  have hl : 0 < (itr (stp m ws) i s).length := by rw [ok.len]; omega
  rw [List.getD_eq_getElem?_getD, List.getElem?_eq_getElem hl]
  exact ok.rng _ (List.getElem_mem hl)
/-- the state by how often each first number is taken -/
theorem tk_state {m : Int} {ws s p : List Int} {k : Nat} (hm : 0 < m) (h1 : 1 ≤ ws.length) (hs : Ok m ws.length s) (h : Tk m ws.length (sq m ws s) p k) : (List.range ws.length).map (fun j => ev (sq m ws s) p j % m) = itr (stp m ws) k s := by
  rw [itr_sq hm h1 hs]
  apply List.map_congr_left
  intro j _
  rw [(h.2 j).emod]
  have := sq_rng hm h1 hs (k + j)
  exact Int.emod_eq_of_lt this.1 this.2
end Mt

/-! PF: the laws' far steps. -/
namespace Den
open PySem L2 Mt
local macro_rules | `(tactic| walk_at "den") => `(tactic| (all_goals (try simp only [fnOf, sSeq, sFz, sAsg, sPar, sUnp, sDrop, sRet, sRetN, sIf, sNext, sNever, sPut, sApp, sMod, modAt, mApp, mPut, fzAt, fzAll, vAll, setAll, gN, gT, gSet, wipeT, vOf, bFz, vC, v1, v2, vBin, vNeg, vCmp, vChain, vAnd, vOr, vNot, bT, bAnd, bOr, bNot, vIf, bIx, dIx, O.isDict, vSl, opI, vNd, vCall, aAll, aPl, aNp, aMv, wSeq, wRange1, wRange2, wRange3, wZip, wEnum, bVar, bYes, dBin, dSub, dMod, dFdiv, dPow, dShl, dShr, i2, dNeg, dCmp, c2, dIs, dInt, dAbs, dMax, dMin, O.child, O.fz, O.toD, O.toDs, O.isVal, O.int?, O.bl?, O.v?, O.allFlat, O.allFlats, ob, om, Option.map_some, Option.bind_some, Option.map_none, Option.bind_none, Option.join_some, Option.join_none, List.length_cons, List.length_nil, List.map_cons, List.map_nil, List.replicate, List.cons_append, List.nil_append, List.getElem?_cons_zero, List.getElem?_cons_succ, List.set_cons_zero, List.set_cons_succ, if_true, if_false, Bool.false_eq_true, reduceIte, Nat.reduceAdd, Nat.reduceSub, Nat.reduceEqDiff, Bool.not_true, Bool.not_false, Bool.and_true, Bool.true_and, Bool.and_false, Bool.false_and, List.all_cons, List.all_nil, true_or, or_true, true_and, and_true, O.ty, dIsB, dAll, dAny, dSum, dLen, dList, dTuple, O.top, O.vals?, dSl, dAdd, dMul, ints?_map, ints?_map', bls?_map, bls?_map', toDs_map', vals_map', toDs_ints, vals_map, toDs_vals, List.length_map, dEq_int, dEq_ints, dEq_bl, cut_map, decide_true, decide_false, decide_eq_true_eq, Bool.not_eq_true', kit_ii, kit_ib, kit_ll, kit_tt, allFlats_ints, vals_mapI, Int.cast_ofNat_Int, Int.reduceAdd, Int.reduceSub, Int.reduceMul, Int.reduceNeg, Int.reduceLT, Int.reduceLE, Int.reduceEq, Int.reduceMod, Int.reduceDiv, Int.reducePow, Int.reduceToNat, Nat.reduceMul, Nat.reducePow, Nat.reduceLeDiff, Nat.reduceLT, decide_not, Int.ofNat_one, Int.ofNat_zero, ne_eq, not_true, not_false_iff, Int.reduceNe])))
noncomputable def W__law_mixed_1 : SE := (sSeq (sPut 6 [] (bFz (vBin .Add (bVar 7) (bVar 9))) (vBin .Add (bIx (bVar 6) (bFz (vBin .Add (bVar 7) (bVar 9)))) (bFz (vBin .Mult (bVar 8) (bVar 10))))) sNext)
noncomputable def W__law_mixed_2 : SE := (sSeq (sFz [2] (sFor (wEnum (bVar 2)) (gT [9, 10]) W__law_mixed_1)) sNext)
noncomputable def W__law_mixed_3 : SE := (sSeq (sAsg 13 (vBin .Add (bFz (vBin .Sub (bVar 7) (bVar 5))) (bVar 9))) (sSeq (sPut 6 [] (bVar 13) (vBin .Add (bIx (bVar 6) (bVar 13)) (bFz (vBin .Mult (bVar 11) (bVar 12))))) sNext))
noncomputable def W__law_mixed_4 : SE := (sSeq (sAsg 11 (vBin .Mod (bIx (bVar 6) (bVar 7)) (bVar 3))) (sSeq (sFz [4] (sFor (wEnum (bVar 4)) (gT [9, 12]) W__law_mixed_3)) (sSeq (sPut 6 [] (bVar 7) (vC (.int 0))) sNext)))
noncomputable def B__law_mixed : SE := (sSeq (sFz [0] (sUnp [3, 4] (bVar 0))) (sSeq (sAsg 5 (v1 dLen (bVar 4))) (sSeq (sAsg 6 (vBin .Mult (bFz (vNd .lst [(vC (.int 0))])) (bFz (vBin .Sub (bFz (vBin .Mult (bFz (vC (.int 2))) (bVar 5))) (bFz (vC (.int 1))))))) (sSeq (sFz [1] (sFor (wEnum (bVar 1)) (gT [7, 8]) W__law_mixed_2)) (sSeq (sFor (wRange3 (bFz (vBin .Sub (bFz (vBin .Mult (bFz (vC (.int 2))) (bVar 5))) (bFz (vC (.int 2))))) (bFz (vBin .Sub (bVar 5) (bFz (vC (.int 1))))) (bFz (vNeg (bFz (vC (.int 1)))))) (gN 7) W__law_mixed_4) (sSeq (sRet (vLc (wSeq (bFz (vSl (bVar 6) none (some (bVar 5))))) [1] (gN 1) bYes (vBin .Mod (bVar 1) (bVar 3)))) sNext))))))
noncomputable def F__law_mixed : Fn := fnOf 3 14 B__law_mixed
noncomputable def W__law_far_1 : BE := (bT (vCmp .Gt (bVar 6) (bFz (vC (.int 0)))))
noncomputable def W__law_far_2 : SE := (sSeq (sIf (bT (vCmp .Eq (bFz (vBin .Mod (bVar 6) (bFz (vC (.int 2))))) (bFz (vC (.int 1))))) (sSeq (sAsg 4 (vCall F__law_mixed [(aPl (bVar 0)), (aPl (bVar 4)), (aPl (bVar 5))])) sNext) sNext) (sSeq (sPar [5, 6] [(vCall F__law_mixed [(aPl (bVar 0)), (aPl (bVar 5)), (aPl (bVar 5))]), (vBin .FloorDiv (bVar 6) (bFz (vC (.int 2))))]) sNext))
noncomputable def W__law_far_3 : SE := (sSeq (sApp 7 [] (vOf (bIx (bFz (vCall F__law_step [(aPl (bVar 0)), (aPl (bFz (vSl (bVar 7) (some (bFz (vNeg (bVar 3)))) none)))])) (bFz (vNeg (bFz (vC (.int 1)))))))) sNext)
noncomputable def W__law_far_4 : SE := (sSeq (sFz [4] (sApp 9 [] (vBin .Mod (bFz (v1 dSum (bFz (vLc (wEnum (bVar 4)) [11, 12] (gT [11, 12]) bYes (vBin .Mult (bVar 12) (bIx (bVar 7) (bFz (vBin .Add (bVar 11) (bVar 10))))))))) (bIx (bVar 0) (bFz (vC (.int 0))))))) sNext)
noncomputable def B__law_far : SE := (sSeq (sAsg 3 (v1 dLen (bIx (bVar 0) (bFz (vC (.int 1)))))) (sSeq (sAsg 4 (vBin .Add (bFz (vNd .lst [(vC (.int 1))])) (bFz (vBin .Mult (bFz (vNd .lst [(vC (.int 0))])) (bFz (vBin .Sub (bVar 3) (bFz (vC (.int 1))))))))) (sSeq (sAsg 5 (vIf (bT (vCmp .Gt (bVar 3) (bFz (vC (.int 1))))) (vBin .Add (bFz (vNd .lst [(vC (.int 0)), (vC (.int 1))])) (bFz (vBin .Mult (bFz (vNd .lst [(vC (.int 0))])) (bFz (vBin .Sub (bVar 3) (bFz (vC (.int 2)))))))) (vNd .lst [(vOf (bIx (bIx (bVar 0) (bFz (vC (.int 1)))) (bFz (vC (.int 0)))))]))) (sSeq (sFz [2] (sAsg 6 (vOf (bVar 2)))) (sSeq (sWhile W__law_far_1 W__law_far_2) (sSeq (sAsg 7 (v1 dList (bVar 1))) (sSeq (sFor (wRange1 (bVar 3)) (gN 8) W__law_far_3) (sSeq (sAsg 9 (vNd .lst [])) (sSeq (sFor (wRange1 (bVar 3)) (gN 10) W__law_far_4) (sSeq (sRetN 9) sNext))))))))))
noncomputable def F__law_far : Fn := fnOf 3 13 B__law_far
theorem wr1' {a : VE} {t : Tau} {n : Nat} (h : a t = some (.int (n : Int))) (hn : n ≤ big) : wRange1 a t = some ((List.range' 0 n).map fun (i : Nat) => D.int (i : Int)) := by
  rw [← List.range_eq_range']
  exact wr1 h hn
/-! ### rows with their places -/
def en : Nat → List Int → List D
  | _, [] => []
  | j, x :: r => D.nd .tup [D.int (j : Int), D.int x] :: en (j + 1) r
theorem en_eq : ∀ (q : List Int) (j : Nat), ((List.range' j q.length).zip (q.map D.int)).map (fun p => D.nd .tup [D.int ((p.1 : Nat) : Int), p.2]) = en j q
  | [], _ => rfl
  | x :: q, j => by
    rw [List.length_cons, List.range'_succ, List.map_cons, List.zip_cons_cons, List.map_cons, en_eq q (j + 1)]
    rfl
theorem wen {a : VE} {t : Tau} {q : List Int} (h : a t = some (.val (.ints q))) : wEnum a t = some (en 0 q) := by
  unfold wEnum
  rw [h, ob]
  show some (((List.range (q.map D.int).length).zip (q.map D.int)).map fun p => D.nd .tup [D.int ((p.1 : Nat) : Int), p.2]) = _
  rw [List.length_map, List.range_eq_range', en_eq]
theorem ints_set (f : List Int) (k : Nat) (x : Int) : (f.map O.int).set k (.val (D.int x)) = (f.set k x).map O.int := by
  rw [List.map_set]
/-- one number of an own list changed -/
theorem put_ints {i : Nat} {j e : VE} {t : Tau} {f : List Int} {k : Nat} {x : Int} (he : e t = some (.int x)) (hj : j t = some (.int (k : Int))) (hi : bVar i t = some (.ints f)) (hl : k < f.length) : sPut i [] j e t = some (.nx (t.set i (some (.ints (f.set k x))))) := by
  refine (put_e he hj hi (by rw [List.length_map]; exact hl)).trans ?_
  rw [show (O.int x).toD = D.int x from rfl, ints_set]
def Sm (p : List Int) : Prop := ∀ x ∈ p, 0 ≤ x ∧ x < 1001
theorem mul_sm {x y : Int} (hx : 0 ≤ x ∧ x < 1001) (hy : 0 ≤ y ∧ y < 1001) : dBin .Mult (.int x) (.int y) = some (.int (x * y)) := mul_e (mul_ok (abs_small hx (by decide)) (abs_small hy (by decide)))
theorem mix_1 {a0 a1 a2 a3 a4 a5 a11 a12 a13 : Option O} {c : Int} {i : Nat} (hc : 0 ≤ c ∧ c < 1001) : ∀ (r f : List Int) (j : Nat) (x9 x10 : Option O), Sm r → i + j + r.length ≤ f.length →
    ∃ y9 y10, forIn' (gT [9, 10]) W__law_mixed_1 (en j r) [a0, a1, a2, a3, a4, a5, some (.ints f), some (.int (i : Int)), some (.int c), x9, x10, a11, a12, a13] = some (.nx [a0, a1, a2, a3, a4, a5, some (.ints (addAt c f (i + j) r)), some (.int (i : Int)), some (.int c), y9, y10, a11, a12, a13])
  | [], f, j, x9, x10, _, _ => ⟨x9, x10, rfl⟩
  | x :: r, f, j, x9, x10, hr, hl => by
    have hl : i + j + (r.length + 1) ≤ f.length := hl
    have hx := hr x List.mem_cons_self
    obtain ⟨y9, y10, ih⟩ := mix_1 (a0 := a0) (a1 := a1) (a2 := a2) (a3 := a3) (a4 := a4) (a5 := a5) (a11 := a11) (a12 := a12) (a13 := a13) (i := i) hc r (f.set (i + j) (f.getD (i + j) 0 + c * x)) (j + 1) (some (.int (j : Int))) (some (.int x)) (fun y hy => hr y (List.mem_cons_of_mem _ hy)) (by rw [List.length_set]; omega)
    refine ⟨y9, y10, ?_⟩
    unfold en forIn'
    rw [show gT [9, 10] (D.nd .tup [D.int (j : Int), D.int x]) [a0, a1, a2, a3, a4, a5, some (.ints f), some (.int (i : Int)), some (.int c), x9, x10, a11, a12, a13] = some [a0, a1, a2, a3, a4, a5, some (.ints f), some (.int (i : Int)), some (.int c), some (.int (j : Int)), some (.int x), a11, a12, a13] from rfl, ob]
    have pl : bFz (vBin .Add (bVar 7) (bVar 9)) [a0, a1, a2, a3, a4, a5, some (.ints f), some (.int (i : Int)), some (.int c), some (.int (j : Int)), some (.int x), a11, a12, a13] = some (.int ((i + j : Nat) : Int)) := by
      rw [Int.natCast_add]
      exact e_fz (e_bin rfl rfl (add_e _ _))
    rw [show W__law_mixed_1 [a0, a1, a2, a3, a4, a5, some (.ints f), some (.int (i : Int)), some (.int c), some (.int (j : Int)), some (.int x), a11, a12, a13] = some (.nx [a0, a1, a2, a3, a4, a5, some (.ints (f.set (i + j) (f.getD (i + j) 0 + c * x))), some (.int (i : Int)), some (.int c), some (.int (j : Int)), some (.int x), a11, a12, a13]) from
      seq_go (put_ints (e_bin (e_ix (x := .ints f) rfl pl (child_oints (by omega))) (e_fz (e_bin rfl rfl (mul_sm hc hx))) (add_e _ _)) pl rfl (by omega)) rfl, ob]
    show forIn' _ _ _ _ = _
    exact ih
theorem mix_2 {a0 a1 a3 a4 a5 a11 a12 a13 : Option O} {q : List Int} (hq : Sm q) : ∀ (r f : List Int) (i : Nat) (x7 x8 x9 x10 : Option O), Sm r → i + r.length + q.length ≤ f.length + 1 →
    ∃ y7 y8 y9 y10, forIn' (gT [7, 8]) W__law_mixed_2 (en i r) [a0, a1, some (.val (.ints q)), a3, a4, a5, some (.ints f), x7, x8, x9, x10, a11, a12, a13] = some (.nx [a0, a1, some (.val (.ints q)), a3, a4, a5, some (.ints (mul1 q f i r)), y7, y8, y9, y10, a11, a12, a13])
  | [], f, i, x7, x8, x9, x10, _, _ => ⟨x7, x8, x9, x10, rfl⟩
  | x :: r, f, i, x7, x8, x9, x10, hr, hl => by
    have hl : i + (r.length + 1) + q.length ≤ f.length + 1 := hl
    have hx := hr x List.mem_cons_self
    obtain ⟨z9, z10, h1⟩ := mix_1 (a0 := a0) (a1 := a1) (a2 := some (.val (.ints q))) (a3 := a3) (a4 := a4) (a5 := a5) (a11 := a11) (a12 := a12) (a13 := a13) (i := i) hx q f 0 x9 x10 hq (by omega)
    obtain ⟨y7, y8, y9, y10, ih⟩ := mix_2 (a0 := a0) (a1 := a1) (a3 := a3) (a4 := a4) (a5 := a5) (a11 := a11) (a12 := a12) (a13 := a13) hq r (addAt x f i q) (i + 1) (some (.int (i : Int))) (some (.int x)) z9 z10 (fun y hy => hr y (List.mem_cons_of_mem _ hy)) (by rw [addAt_len]; omega)
    refine ⟨y7, y8, y9, y10, ?_⟩
    unfold en forIn'
    rw [show gT [7, 8] (D.nd .tup [D.int (i : Int), D.int x]) [a0, a1, some (.val (.ints q)), a3, a4, a5, some (.ints f), x7, x8, x9, x10, a11, a12, a13] = some [a0, a1, some (.val (.ints q)), a3, a4, a5, some (.ints f), some (.int (i : Int)), some (.int x), x9, x10, a11, a12, a13] from rfl, ob]
    rw [show W__law_mixed_2 [a0, a1, some (.val (.ints q)), a3, a4, a5, some (.ints f), some (.int (i : Int)), some (.int x), x9, x10, a11, a12, a13] = some (.nx [a0, a1, some (.val (.ints q)), a3, a4, a5, some (.ints (addAt x f i q)), some (.int (i : Int)), some (.int x), z9, z10, a11, a12, a13]) from
      seq_go (e_for (t := [a0, a1, some (.val (.ints q)), a3, a4, a5, some (.ints f), some (.int (i : Int)), some (.int x), x9, x10, a11, a12, a13]) (wen rfl) h1) rfl, ob]
    show forIn' _ _ _ _ = _
    exact ih
theorem mix_3 {a0 a1 a2 a3 a4 a6 a8 a10 : Option O} {l : Int} {c n : Nat} (hc : 0 ≤ l ∧ l < 1001) : ∀ (r f : List Int) (j : Nat) (x9 x12 x13 : Option O), Sm r → c + j + r.length ≤ f.length →
    ∃ y9 y12 y13, forIn' (gT [9, 12]) W__law_mixed_3 (en j r) [a0, a1, a2, a3, a4, some (.int (n : Int)), some (.ints f), some (.int ((n + c : Nat) : Int)), a8, x9, a10, some (.int l), x12, x13] = some (.nx [a0, a1, a2, a3, a4, some (.int (n : Int)), some (.ints (addAt l f (c + j) r)), some (.int ((n + c : Nat) : Int)), a8, y9, a10, some (.int l), y12, y13])
  | [], f, j, x9, x12, x13, _, _ => ⟨x9, x12, x13, rfl⟩
  | x :: r, f, j, x9, x12, x13, hr, hl => by
    have hl : c + j + (r.length + 1) ≤ f.length := hl
    have hx := hr x List.mem_cons_self
    obtain ⟨y9, y12, y13, ih⟩ := mix_3 (a0 := a0) (a1 := a1) (a2 := a2) (a3 := a3) (a4 := a4) (a6 := a6) (a8 := a8) (a10 := a10) (n := n) (c := c) hc r (f.set (c + j) (f.getD (c + j) 0 + l * x)) (j + 1) (some (.int (j : Int))) (some (.int x)) (some (.int ((c + j : Nat) : Int))) (fun y hy => hr y (List.mem_cons_of_mem _ hy)) (by rw [List.length_set]; omega)
    refine ⟨y9, y12, y13, ?_⟩
    unfold en forIn'
    rw [show gT [9, 12] (D.nd .tup [D.int (j : Int), D.int x]) [a0, a1, a2, a3, a4, some (.int (n : Int)), some (.ints f), some (.int ((n + c : Nat) : Int)), a8, x9, a10, some (.int l), x12, x13] = some [a0, a1, a2, a3, a4, some (.int (n : Int)), some (.ints f), some (.int ((n + c : Nat) : Int)), a8, some (.int (j : Int)), a10, some (.int l), some (.int x), x13] from rfl, ob]
    have pl : vBin .Add (bFz (vBin .Sub (bVar 7) (bVar 5))) (bVar 9) [a0, a1, a2, a3, a4, some (.int (n : Int)), some (.ints f), some (.int ((n + c : Nat) : Int)), a8, some (.int (j : Int)), a10, some (.int l), some (.int x), x13] = some (.int ((c + j : Nat) : Int)) := by
      rw [show ((c + j : Nat) : Int) = ((n + c : Nat) : Int) - (n : Int) + (j : Int) by omega]
      exact e_bin (e_fz (e_bin rfl rfl (sub_e _ _))) rfl (add_e _ _)
    rw [show W__law_mixed_3 [a0, a1, a2, a3, a4, some (.int (n : Int)), some (.ints f), some (.int ((n + c : Nat) : Int)), a8, some (.int (j : Int)), a10, some (.int l), some (.int x), x13] = some (.nx [a0, a1, a2, a3, a4, some (.int (n : Int)), some (.ints (f.set (c + j) (f.getD (c + j) 0 + l * x))), some (.int ((n + c : Nat) : Int)), a8, some (.int (j : Int)), a10, some (.int l), some (.int x), some (.int ((c + j : Nat) : Int))]) from
      seq_go (e_asg pl) (seq_go (put_ints (k := c + j) (e_bin (e_ix (x := .ints f) (j := ((c + j : Nat) : Int)) rfl rfl (child_oints (by omega))) (e_fz (e_bin rfl rfl (mul_sm hc hx))) (add_e _ _)) rfl rfl (by omega)) rfl), ob]
    show forIn' _ _ _ _ = _
    exact ih
def dn (n : Nat) : Nat → List D
  | 0 => []
  | c + 1 => D.int ((n + c : Nat) : Int) :: dn n c
theorem mix_4 {a0 a1 a2 a8 a10 : Option O} {m : Int} {ws : List Int} (hm : 0 < m) (hm2 : m ≤ 1000) (hw : Sm ws) : ∀ (c : Nat) (f : List Int) (x7 x9 x11 x12 x13 : Option O), ws.length + c ≤ f.length →
    ∃ y7 y9 y11 y12 y13, forIn' (gN 7) W__law_mixed_4 (dn ws.length c) [a0, a1, a2, some (.int m), some (.val (.ints ws)), some (.int (ws.length : Int)), some (.ints f), x7, a8, x9, a10, x11, x12, x13] = some (.nx [a0, a1, a2, some (.int m), some (.val (.ints ws)), some (.int (ws.length : Int)), some (.ints (redK m ws c f)), y7, a8, y9, a10, y11, y12, y13])
  | 0, f, x7, x9, x11, x12, x13, _ => ⟨x7, x9, x11, x12, x13, rfl⟩
  | c + 1, f, x7, x9, x11, x12, x13, hl => by
    have l0 : 0 ≤ f.getD (ws.length + c) 0 % m := Int.emod_nonneg _ (by omega)
    have l1 : f.getD (ws.length + c) 0 % m < m := Int.emod_lt_of_pos _ hm
    obtain ⟨z9, z12, z13, h1⟩ := mix_3 (a0 := a0) (a1 := a1) (a2 := a2) (a3 := some (.int m)) (a4 := some (.val (.ints ws))) (a6 := none) (a8 := a8) (a10 := a10) (n := ws.length) (c := c) (l := f.getD (ws.length + c) 0 % m) (by omega) ws f 0 x9 x12 x13 hw (by omega)
    obtain ⟨y7, y9, y11, y12, y13, ih⟩ := mix_4 (a0 := a0) (a1 := a1) (a2 := a2) (a8 := a8) (a10 := a10) hm hm2 hw c ((addAt (f.getD (ws.length + c) 0 % m) f c ws).set (ws.length + c) 0) (some (.int ((ws.length + c : Nat) : Int))) z9 (some (.int (f.getD (ws.length + c) 0 % m))) z12 z13 (by rw [List.length_set, addAt_len]; omega)
    refine ⟨y7, y9, y11, y12, y13, ?_⟩
    unfold dn forIn'
    rw [show gN 7 (D.int ((ws.length + c : Nat) : Int)) [a0, a1, a2, some (.int m), some (.val (.ints ws)), some (.int (ws.length : Int)), some (.ints f), x7, a8, x9, a10, x11, x12, x13] = some [a0, a1, a2, some (.int m), some (.val (.ints ws)), some (.int (ws.length : Int)), some (.ints f), some (.int ((ws.length + c : Nat) : Int)), a8, x9, a10, x11, x12, x13] from rfl, ob]
    rw [show W__law_mixed_4 [a0, a1, a2, some (.int m), some (.val (.ints ws)), some (.int (ws.length : Int)), some (.ints f), some (.int ((ws.length + c : Nat) : Int)), a8, x9, a10, x11, x12, x13] = some (.nx [a0, a1, a2, some (.int m), some (.val (.ints ws)), some (.int (ws.length : Int)), some (.ints ((addAt (f.getD (ws.length + c) 0 % m) f c ws).set (ws.length + c) 0)), some (.int ((ws.length + c : Nat) : Int)), a8, z9, a10, some (.int (f.getD (ws.length + c) 0 % m)), z12, z13]) from
      seq_go (e_asg (e_bin (e_ix (x := .ints f) (j := ((ws.length + c : Nat) : Int)) rfl rfl (child_oints (by omega))) rfl (mod_e hm))) (seq_go (e_for (t := [a0, a1, a2, some (.int m), some (.val (.ints ws)), some (.int (ws.length : Int)), some (.ints f), some (.int ((ws.length + c : Nat) : Int)), a8, x9, a10, some (.int (f.getD (ws.length + c) 0 % m)), x12, x13]) (wen rfl) h1) (seq_go (put_ints (f := addAt (f.getD (ws.length + c) 0 % m) f c ws) (k := ws.length + c) (x := 0) rfl rfl rfl (by rw [addAt_len]; omega)) rfl)), ob]
    show forIn' _ _ _ _ = _
    exact ih
theorem mulL_ints (x k : Int) (h0 : -1000 ≤ k) (h1 : k ≤ 1000) : dBin .Mult (.val (.nd .lst [D.int x])) (.int k) = some (.ints (List.replicate k.toNat x)) := by
  have e : ∀ n : Nat, ((List.replicate n [D.int x]).flatten).map O.val = (List.replicate n x).map O.int := by
    intro n
    induction n with
    | zero => rfl
    | succ n ih =>
      rw [List.replicate_succ, List.flatten_cons, List.map_append, ih]
      rfl
  show (if -(2 ^ 63) ≤ k ∧ k < 2 ^ 63 ∧ [D.int x].length * k.toNat ≤ big then some (O.nd .lst (((List.replicate k.toNat [D.int x]).flatten).map O.val)) else none) = _
  rw [if_pos ⟨by omega, by omega, by show 1 * k.toNat ≤ 100000; omega⟩, e]
theorem wdn {a b c : VE} {t : Tau} {n : Nat} (h1 : 1 ≤ n) (h4 : n ≤ 4) (ha : a t = some (.int (2 * (n : Int) - 2))) (hb : b t = some (.int ((n : Int) - 1))) (hc : c t = some (.int (-1))) : wRange3 a b c t = some (dn n (n - 1)) := by
  unfold wRange3
  rw [ha, ob, hb, ob, hc, ob]
  have : n = 1 ∨ n = 2 ∨ n = 3 ∨ n = 4 := by omega
  rcases this with rfl | rfl | rfl | rfl <;> rfl
theorem cutN {α : Type} (xs : List α) (n : Nat) : cut xs none (some (n : Int)) = xs.take n := by
  unfold cut
  rw [show HT.sIx xs.length xs.length (some (n : Int)) = min n xs.length from HT.sIx_nat _ _ n, HT.sIx_none, List.drop_zero, Nat.sub_zero]
  by_cases h : n ≤ xs.length
  · rw [Nat.min_eq_left h]
  · rw [Nat.min_eq_right (by omega), List.take_of_length_le (Nat.le_refl _), List.take_of_length_le (by omega)]
theorem cutNeg {α : Type} (xs : List α) (n : Nat) (h1 : 1 ≤ n) (h : n ≤ xs.length) : cut xs (some (-(n : Int))) none = xs.drop (xs.length - n) := by
  unfold cut
  have e : HT.sIx xs.length 0 (some (-(n : Int))) = xs.length - n := by
    have := HT.clip_eq (-(n : Int)) xs.length 0
    rw [if_pos (by omega)] at this
    omega
  rw [e, HT.sIx_none]
  apply List.take_of_length_le
  rw [List.length_drop]
  exact Nat.le_refl _

theorem mixed_ok {m : Int} {ws p q : List Int} (h : Wh m ws) (hp : Sm p) (hq : Sm q) (lp : p.length = ws.length) (lq : q.length = ws.length) : F__law_mixed [.val (.wheel m ws), .val (.ints p), .val (.ints q)] = some (.ints (mixd m ws p q)) := by
  have h0 : 0 < m := by have := h.lo; omega
  have h1 := h.len
  have h4 := h.most
  have hm := h.hi
  have hw : Sm ws := fun x hx => by have := h.rng x hx; omega
  obtain ⟨y7, y8, y9, y10, e1⟩ := mix_2 (a0 := some (.val (.wheel m ws))) (a1 := some (.val (.ints p))) (a3 := some (.int m)) (a4 := some (.val (.ints ws))) (a5 := some (.int (ws.length : Int))) (a11 := none) (a12 := none) (a13 := none) hq p (List.replicate (2 * ws.length - 1) 0) 0 none none none none hp (by rw [List.length_replicate]; omega)
  obtain ⟨z7, z9, z11, z12, z13, e2⟩ := mix_4 (a0 := some (.val (.wheel m ws))) (a1 := some (.val (.ints p))) (a2 := some (.val (.ints q))) (a8 := y8) (a10 := y10) h0 hm hw (ws.length - 1) (mul1 q (List.replicate (2 * ws.length - 1) 0) 0 p) y7 y9 none none none (by rw [mul1_len, List.length_replicate]; omega)
  refine fn_rt rfl (seq_go (t' := [some (.val (.wheel m ws)), some (.val (.ints p)), some (.val (.ints q)), some (.int m), some (.val (.ints ws)), none, none, none, none, none, none, none, none, none]) rfl (seq_go (t' := [some (.val (.wheel m ws)), some (.val (.ints p)), some (.val (.ints q)), some (.int m), some (.val (.ints ws)), some (.int (ws.length : Int)), none, none, none, none, none, none, none, none]) (e_asg (e_v1 rfl (len_ints ws))) (seq_go (t' := [some (.val (.wheel m ws)), some (.val (.ints p)), some (.val (.ints q)), some (.int m), some (.val (.ints ws)), some (.int (ws.length : Int)), some (.ints (List.replicate (2 * ws.length - 1) 0)), none, none, none, none, none, none, none]) (e_asg ?_) (seq_go (e_for (t := [some (.val (.wheel m ws)), some (.val (.ints p)), some (.val (.ints q)), some (.int m), some (.val (.ints ws)), some (.int (ws.length : Int)), some (.ints (List.replicate (2 * ws.length - 1) 0)), none, none, none, none, none, none, none]) (wen rfl) e1) (seq_go (e_for (wdn h1 h4 (e_fz (e_bin (e_fz (e_bin rfl rfl (mul_sm (by decide) (by omega)))) rfl (sub_e _ _))) (e_fz (e_bin rfl rfl (sub_e _ _))) rfl) e2) (seq_rt (e_ret ?_)))))))
  · have e : (2 * ws.length - 1 : Nat) = (2 * (ws.length : Int) - 1).toNat := by omega
    rw [e]
    exact e_bin (x := .val (.nd .lst [D.int 0])) rfl (e_fz (e_bin (e_fz (e_bin rfl rfl (mul_sm (by decide) (by omega)))) rfl (sub_e _ _))) (mulL_ints 0 _ (by omega) (by omega))
  · have lr : (redK m ws (ws.length - 1) (mul1 q (List.replicate (2 * ws.length - 1) 0) 0 p)).length = 2 * ws.length - 1 := by rw [redK_len, mul1_len, List.length_replicate]
    generalize hr : redK m ws (ws.length - 1) (mul1 q (List.replicate (2 * ws.length - 1) 0) 0 p) = r at lr
    rw [vLc_map (xs := r.take ws.length) (φ := D.int) (ψ := fun x => D.int (x % m))]
    · unfold mixd
      rw [hr]
      show some (O.nd .lst ((r.take ws.length).map fun x => O.int (x % m))) = some (O.nd .lst (((r.take ws.length).map (· % m)).map O.int))
      rw [List.map_map]
      rfl
    · show ((some (O.val (O.nd .lst ((cut (O.toDs (r.map O.int)) none (some (ws.length : Int))).map O.val)).toD)).bind _) = _
      rw [toDs_ints, cut_map, cutN, ob]
      show some (O.toDs (((r.take ws.length).map D.int).map O.val)) = _
      rw [toDs_vals]
    · rw [List.length_take]
      show _ ≤ 100000
      omega
    · intro x hx
      exact el (o := .int (x % m)) rfl (e_bin rfl rfl (mod_e h0))
theorem sm_mixd {m : Int} {ws p q : List Int} (h : Wh m ws) : Sm (mixd m ws p q) := fun x hx => by
  have := mixd_rng (ws := ws) (p := p) (q := q) (by have := h.lo; omega) x hx
  have := h.hi
  omega
theorem a_oints {b : VE} {t : Tau} {p : List Int} (h : b t = some (.ints p)) : aPl b t = some (.val (.ints p), false) := by
  unfold aPl
  rw [h, om, toD_ints]
  rfl
/-- the while of the far steps -/
theorem far_go {m : Int} {ws s : List Int} (h : Wh m ws) (hs : Ok m ws.length s) {a1 a2 a3 a7 a8 a9 a10 a11 a12 : Option O} : ∀ (l : Nat) (p q : List Int) (d e : Nat), Sm p → Sm q → Tk m ws.length (sq m ws s) p d → Tk m ws.length (sq m ws s) q e →
    ∃ p' q', Sm p' ∧ Tk m ws.length (sq m ws s) p' (d + e * l) ∧ sWhile W__law_far_1 W__law_far_2 [some (.val (.wheel m ws)), a1, a2, a3, some (.ints p), some (.ints q), some (.int (l : Int)), a7, a8, a9, a10, a11, a12] = some (.nx [some (.val (.wheel m ws)), a1, a2, a3, some (.ints p'), some (.ints q'), some (.int 0), a7, a8, a9, a10, a11, a12]) := by
  have h0 : 0 < m := by have := h.lo; omega
  intro l
  induction l using Nat.strongRecOn with
  | ind l ih =>
    intro p q d e sp sq' tp tq
    by_cases hl : l = 0
    · subst hl
      refine ⟨p, q, sp, by rw [Nat.mul_zero, Nat.add_zero]; exact tp, while_end (e_T ((e_cmp rfl rfl (gt_e _ _)).trans ?_))⟩
      rfl
    · have t2 := mixd_ok h.len (sq_cg h0 h.len hs) tq tq
      have par : ∀ p1 : List Int, sSeq (sPar [5, 6] [(vCall F__law_mixed [(aPl (bVar 0)), (aPl (bVar 5)), (aPl (bVar 5))]), (vBin .FloorDiv (bVar 6) (bFz (vC (.int 2))))]) sNext [some (.val (.wheel m ws)), a1, a2, a3, some (.ints p1), some (.ints q), some (.int (l : Int)), a7, a8, a9, a10, a11, a12] = some (.nx [some (.val (.wheel m ws)), a1, a2, a3, some (.ints p1), some (.ints (mixd m ws q q)), some (.int ((l / 2 : Nat) : Int)), a7, a8, a9, a10, a11, a12]) := fun p1 =>
        seq_go (par_e (all_1 (e_callF (as_1 (a_pl rfl) (as_1 (a_oints rfl) (as_1 (a_oints rfl) as_0))) (mixed_ok h sq' sq' tq.1 tq.1) rfl (allFlat_ints _)) (all_1 (o := .int ((l / 2 : Nat) : Int)) (e_bin rfl rfl ((div_e (by decide) (by decide)).trans (by rw [Int.natCast_ediv]; rfl))) all_0)) rfl) rfl
      have cnd : ∀ k, k = decide (l % 2 = 1) → bT (vCmp .Eq (bFz (vBin .Mod (bVar 6) (bFz (vC (.int 2))))) (bFz (vC (.int 1)))) [some (.val (.wheel m ws)), a1, a2, a3, some (.ints p), some (.ints q), some (.int (l : Int)), a7, a8, a9, a10, a11, a12] = some k := fun k hk => by
        refine e_T ((e_cmp (e_fz (e_bin rfl rfl (mod_e (by decide)))) rfl (eq_e _ _)).trans ?_)
        rw [hk]
        by_cases z : l % 2 = 1
        · rw [decide_eq_true z, decide_eq_true (show (l : Int) % 2 = 1 by omega)]
        · rw [decide_eq_false z, decide_eq_false (show ¬ (l : Int) % 2 = 1 by omega)]
      have gt : W__law_far_1 [some (.val (.wheel m ws)), a1, a2, a3, some (.ints p), some (.ints q), some (.int (l : Int)), a7, a8, a9, a10, a11, a12] = some true := e_T ((e_cmp rfl rfl (gt_e _ _)).trans (by rw [decide_eq_true (by omega)]))
      by_cases ho : l % 2 = 1
      · have t1 := mixd_ok h.len (sq_cg h0 h.len hs) tp tq
        obtain ⟨p', q', g1, g2, g3⟩ := ih (l / 2) (by omega) (mixd m ws p q) (mixd m ws q q) (d + e) (e + e) (sm_mixd h) (sm_mixd h) t1 t2
        refine ⟨p', q', g1, ?_, while_turn gt (seq_go (if_t (cnd true (by rw [decide_eq_true ho])) (seq_go (e_asg (e_callF (as_1 (a_pl rfl) (as_1 (a_oints rfl) (as_1 (a_oints rfl) as_0))) (mixed_ok h sp sq' tp.1 tq.1) rfl (allFlat_ints _))) rfl)) (par _)) g3⟩
        have e2 : d + e + (e + e) * (l / 2) = d + e * l := by
          have : l = 2 * (l / 2) + 1 := by omega
          rw [show e * l = e * (2 * (l / 2) + 1) by rw [← this], Nat.mul_add, ← Nat.mul_assoc, Nat.mul_comm e 2, Nat.two_mul]
          omega
        rw [← e2]
        exact g2
      · obtain ⟨p', q', g1, g2, g3⟩ := ih (l / 2) (by omega) p (mixd m ws q q) d (e + e) sp (sm_mixd h) tp t2
        refine ⟨p', q', g1, ?_, while_turn gt (seq_go (if_f (cnd false (by rw [decide_eq_false ho])) rfl) (par _)) g3⟩
        have e2 : d + (e + e) * (l / 2) = d + e * l := by
          have : l = 2 * (l / 2) := by omega
          rw [show e * l = e * (2 * (l / 2)) by rw [← this], ← Nat.mul_assoc, Nat.mul_comm e 2, Nat.two_mul]
        rw [← e2]
        exact g2
theorem child_last {r : List Int} (h : 0 < r.length) : (O.val (.ints r)).child (-1) = some (.int (r.getD (r.length - 1) 0)) := by
  show (atI (r.map D.int) (-1)).map O.val = _
  have hn : r.map D.int ≠ [] := by
    intro e
    have := congrArg List.length e
    rw [List.length_map] at this
    simp at this
    rw [this] at h
    cases h
  rw [atI_last' _ hn]
  rw [List.getLast_eq_getElem]
  simp only [List.length_map, List.getElem_map, List.getD_eq_getElem?_getD, List.getElem?_eq_getElem (show r.length - 1 < r.length by omega)]
  rfl
theorem drop_row (a : Nat → Int) (n i : Nat) : ((List.range (n + i)).map a).drop i = (List.range n).map fun j => a (i + j) := by
  rw [← List.map_drop, List.range_eq_range', List.drop_range', Nat.zero_add, Nat.add_sub_cancel, Nat.mul_one, List.range'_eq_map_range, List.map_map]
  rfl
/-- the row of the first numbers -/
theorem far_3 {m : Int} {ws s : List Int} (h : Wh m ws) (hs : Ok m ws.length s) {a1 a2 a4 a5 a6 a9 a10 a11 a12 : Option O} : ∀ (c i : Nat) (x8 : Option O), i + c = ws.length → ∃ y8, forIn' (gN 8) W__law_far_3 ((List.range' i c).map fun (j : Nat) => D.int (j : Int)) [some (.val (.wheel m ws)), a1, a2, some (.int (ws.length : Int)), a4, a5, a6, some (.ints ((List.range (ws.length + i)).map (sq m ws s))), x8, a9, a10, a11, a12] = some (.nx [some (.val (.wheel m ws)), a1, a2, some (.int (ws.length : Int)), a4, a5, a6, some (.ints ((List.range (ws.length + ws.length)).map (sq m ws s))), y8, a9, a10, a11, a12])
  | 0, i, x8, hi => ⟨x8, by rw [← hi]; rfl⟩
  | c + 1, i, x8, hi => by
    have h0 : 0 < m := by have := h.lo; omega
    have h1 := h.len
    have h4 := h.most
    have ok := ok_itr (ws := ws) h0 h1 hs i
    have ok1 := ok_itr (ws := ws) h0 h1 hs (i + 1)
    obtain ⟨y8, ih⟩ := far_3 h hs (a1 := a1) (a2 := a2) (a4 := a4) (a5 := a5) (a6 := a6) (a9 := a9) (a10 := a10) (a11 := a11) (a12 := a12) c (i + 1) (some (.int (i : Int))) (by omega)
    refine ⟨y8, ?_⟩
    rw [List.range'_succ, List.map_cons]
    unfold forIn'
    rw [show gN 8 (D.int (i : Int)) [some (.val (.wheel m ws)), a1, a2, some (.int (ws.length : Int)), a4, a5, a6, some (.ints ((List.range (ws.length + i)).map (sq m ws s))), x8, a9, a10, a11, a12] = some [some (.val (.wheel m ws)), a1, a2, some (.int (ws.length : Int)), a4, a5, a6, some (.ints ((List.range (ws.length + i)).map (sq m ws s))), some (.int (i : Int)), a9, a10, a11, a12] from rfl, ob]
    have sl : vSl (bVar 7) (some (bFz (vNeg (bVar 3)))) none [some (.val (.wheel m ws)), a1, a2, some (.int (ws.length : Int)), a4, a5, a6, some (.ints ((List.range (ws.length + i)).map (sq m ws s))), some (.int (i : Int)), a9, a10, a11, a12] = some (.ints (itr (stp m ws) i s)) := by
      show dSl (.ints ((List.range (ws.length + i)).map (sq m ws s))) (some (-(ws.length : Int))) none = _
      unfold dSl
      rw [top_ints]
      show some (O.nd .lst ((cut (((List.range (ws.length + i)).map (sq m ws s)).map D.int) (some (-(ws.length : Int))) none).map O.val)) = _
      rw [cut_map, cutNeg _ _ h1 (by rw [List.length_map, List.length_range]; omega), List.length_map, List.length_range, Nat.add_sub_cancel_left, drop_row, ← itr_sq h0 h1 hs, List.map_map]
      rfl
    have nx : vOf (bIx (bFz (vCall F__law_step [(aPl (bVar 0)), (aPl (bFz (vSl (bVar 7) (some (bFz (vNeg (bVar 3)))) none)))])) (bFz (vNeg (bFz (vC (.int 1)))))) [some (.val (.wheel m ws)), a1, a2, some (.int (ws.length : Int)), a4, a5, a6, some (.ints ((List.range (ws.length + i)).map (sq m ws s))), some (.int (i : Int)), a9, a10, a11, a12] = some (.int (sq m ws s (ws.length + i))) := by
      have an := a_pl ((e_fz sl).trans (by rw [toD_ints]))
      have e := e_fz (e_call (as_t (a_pl (b := bVar 0) (d := .wheel m ws) rfl) (as_t an as_0)) (law_step_ok h ok))
      rw [toD_ints] at e
      refine e_of (e_ix (j := -1) e rfl ?_)
      have lst := child_last (r := itr (stp m ws) (i + 1) s) (by rw [ok1.len]; omega)
      rw [ok1.len, sq_at h0 h1 hs _ _ (by omega), show i + 1 + (ws.length - 1) = ws.length + i by omega, itr_succ] at lst
      exact lst
    rw [show W__law_far_3 [some (.val (.wheel m ws)), a1, a2, some (.int (ws.length : Int)), a4, a5, a6, some (.ints ((List.range (ws.length + i)).map (sq m ws s))), some (.int (i : Int)), a9, a10, a11, a12] = some (.nx [some (.val (.wheel m ws)), a1, a2, some (.int (ws.length : Int)), a4, a5, a6, some (.ints ((List.range (ws.length + (i + 1))).map (sq m ws s))), some (.int (i : Int)), a9, a10, a11, a12]) from by
      refine seq_go ((app_e nx rfl (by rw [List.length_map, List.length_map, List.length_range]; show _ < 100000; omega)).trans ?_) rfl
      show some (Out.nx [_, _, _, _, _, _, _, some (.nd .lst (((List.range (ws.length + i)).map (sq m ws s)).map O.int ++ [.int (sq m ws s (ws.length + i))])), _, _, _, _, _]) = some (Out.nx [_, _, _, _, _, _, _, some (.nd .lst (((List.range (ws.length + i + 1)).map (sq m ws s)).map O.int)), _, _, _, _, _])
      rw [List.range_succ, List.map_append, List.map_append]
      rfl, ob]
    show forIn' _ _ _ _ = _
    exact ih
theorem ev_sum (a : Nat → Int) : ∀ (p : List Int) (o j : Nat), ((List.range' j p.length).map fun i => p.getD (i - j) 0 * a (i + o)).sum = ev a p (o + j)
  | [], o, j => rfl
  | x :: p, o, j => by
    rw [List.length_cons, List.range'_succ, List.map_cons, List.sum_cons, Nat.sub_self]
    show x * a (j + o) + _ = x * a (o + j) + ev a p (o + j + 1)
    rw [Nat.add_comm j o, show o + j + 1 = o + (j + 1) by omega, ← ev_sum a p o (j + 1)]
    congr 2
    apply List.map_congr_left
    intro i hi
    have : j + 1 ≤ i := by
      have := List.mem_range'_1.mp hi
      omega
    rw [show i - j = (i - (j + 1)) + 1 by omega]
    rfl
theorem en_map : ∀ (p : List Int) (j : Nat), en j p = (List.range' j p.length).map fun (i : Nat) => D.nd .tup [D.int (i : Int), D.int (p.getD (i - j) 0)]
  | [], j => rfl
  | x :: p, j => by
    unfold en
    rw [List.length_cons, List.range'_succ, List.map_cons, Nat.sub_self, en_map p (j + 1)]
    congr 1
    apply List.map_congr_left
    intro i hi
    have : j + 1 ≤ i := by
      have := List.mem_range'_1.mp hi
      omega
    rw [show i - j = (i - (j + 1)) + 1 by omega]
    rfl
theorem far_4 {m : Int} {ws s p : List Int} (h : Wh m ws) (hs : Ok m ws.length s) (sp : Sm p) (lp : p.length = ws.length) {a1 a2 a3 a5 a6 a8 : Option O} : ∀ (c i : Nat) (o4 : O) (x10 x11 x12 : Option O), o4.toD = .ints p → i + c = ws.length → ∃ y4 y10 y11 y12, forIn' (gN 10) W__law_far_4 ((List.range' i c).map fun (j : Nat) => D.int (j : Int)) [some (.val (.wheel m ws)), a1, a2, a3, some o4, a5, a6, some (.ints ((List.range (ws.length + ws.length)).map (sq m ws s))), a8, some (.ints ((List.range i).map fun j => ev (sq m ws s) p j % m)), x10, x11, x12] = some (.nx [some (.val (.wheel m ws)), a1, a2, a3, y4, a5, a6, some (.ints ((List.range (ws.length + ws.length)).map (sq m ws s))), a8, some (.ints ((List.range ws.length).map fun j => ev (sq m ws s) p j % m)), y10, y11, y12])
  | 0, i, o4, x10, x11, x12, _, hi => ⟨some o4, x10, x11, x12, by rw [← hi]; rfl⟩
  | c + 1, i, o4, x10, x11, x12, h4, hi => by
    have h0 : 0 < m := by have := h.lo; omega
    have h1 := h.len
    have hm := h.hi
    have most := h.most
    obtain ⟨y4, y10, y11, y12, ih⟩ := far_4 h hs sp lp (a1 := a1) (a2 := a2) (a3 := a3) (a5 := a5) (a6 := a6) (a8 := a8) c (i + 1) (.val (.ints p)) (some (.int (i : Int))) x11 x12 rfl (by omega)
    refine ⟨y4, y10, y11, y12, ?_⟩
    rw [List.range'_succ, List.map_cons]
    unfold forIn'
    rw [show gN 10 (D.int (i : Int)) [some (.val (.wheel m ws)), a1, a2, a3, some o4, a5, a6, some (.ints ((List.range (ws.length + ws.length)).map (sq m ws s))), a8, some (.ints ((List.range i).map fun j => ev (sq m ws s) p j % m)), x10, x11, x12] = some [some (.val (.wheel m ws)), a1, a2, a3, some o4, a5, a6, some (.ints ((List.range (ws.length + ws.length)).map (sq m ws s))), a8, some (.ints ((List.range i).map fun j => ev (sq m ws s) p j % m)), some (.int (i : Int)), x11, x12] from rfl, ob]
    have lc : vLc (wEnum (bVar 4)) [11, 12] (gT [11, 12]) bYes (vBin .Mult (bVar 12) (bIx (bVar 7) (bFz (vBin .Add (bVar 11) (bVar 10))))) [some (.val (.wheel m ws)), a1, a2, a3, some (.val (.ints p)), a5, a6, some (.ints ((List.range (ws.length + ws.length)).map (sq m ws s))), a8, some (.ints ((List.range i).map fun j => ev (sq m ws s) p j % m)), some (.int (i : Int)), x11, x12] = some (.ints ((List.range' 0 p.length).map fun j => p.getD (j - 0) 0 * sq m ws s (j + i))) := by
      rw [vLc_map (xs := List.range' 0 p.length) (φ := fun (j : Nat) => D.nd .tup [D.int (j : Int), D.int (p.getD (j - 0) 0)]) (ψ := fun (j : Nat) => D.int (p.getD (j - 0) 0 * sq m ws s (j + i))) ((wen rfl).trans (by rw [en_map])) (by rw [List.length_range', lp]; show _ ≤ 100000; omega)]
      · show _ = some (O.nd .lst (((List.range' 0 p.length).map fun j => p.getD (j - 0) 0 * sq m ws s (j + i)).map O.int))
        rw [List.map_map]
        rfl
      · intro j hj
        have hj : j < p.length := by
          have := List.mem_range'_1.mp hj
          omega
        have gp : 0 ≤ p.getD (j - 0) 0 ∧ p.getD (j - 0) 0 < 1001 := by
          rw [Nat.sub_zero, List.getD_eq_getElem?_getD, List.getElem?_eq_getElem hj]
          exact sp _ (List.getElem_mem hj)
        have gs := sq_rng h0 h1 hs (j + i)
        have ch := child_oints (r := (List.range (ws.length + ws.length)).map (sq m ws s)) (j := j + i) (by rw [List.length_map, List.length_range]; omega)
        rw [List.getD_eq_getElem?_getD, List.getElem?_map, List.getElem?_range (by omega), show (Option.map (sq m ws s) (some (j + i))).getD 0 = sq m ws s (j + i) from rfl] at ch
        exact el (o := .int (p.getD (j - 0) 0 * sq m ws s (j + i))) rfl (e_bin rfl (e_ix (x := .ints ((List.range (ws.length + ws.length)).map (sq m ws s))) (j := ((j + i : Nat) : Int)) rfl ((e_fz (e_bin rfl rfl (add_e _ _))).trans (by rw [Int.natCast_add]; rfl)) ch) (mul_sm gp (by omega)))
    have ap : vBin .Mod (bFz (v1 dSum (bFz (vLc (wEnum (bVar 4)) [11, 12] (gT [11, 12]) bYes (vBin .Mult (bVar 12) (bIx (bVar 7) (bFz (vBin .Add (bVar 11) (bVar 10))))))))) (bIx (bVar 0) (bFz (vC (.int 0)))) [some (.val (.wheel m ws)), a1, a2, a3, some (.val (.ints p)), a5, a6, some (.ints ((List.range (ws.length + ws.length)).map (sq m ws s))), a8, some (.ints ((List.range i).map fun j => ev (sq m ws s) p j % m)), some (.int (i : Int)), x11, x12] = some (.int (ev (sq m ws s) p i % m)) := by
      refine e_bin (x := .int (ev (sq m ws s) p i)) (e_fz (x := .int (ev (sq m ws s) p i)) (e_v1 (e_fz lc) ?_)) (e_ix rfl rfl (wheel_m m ws)) (mod_e h0)
      rw [toD_ints]
      show (ints? (((List.range' 0 p.length).map fun j => p.getD (j - 0) 0 * sq m ws s (j + i)).map D.int)).map (fun ns => O.int ns.sum) = _
      rw [ints?_map, om, ev_sum (sq m ws s) p i 0]
      rfl
    have st : W__law_far_4 [some (.val (.wheel m ws)), a1, a2, a3, some o4, a5, a6, some (.ints ((List.range (ws.length + ws.length)).map (sq m ws s))), a8, some (.ints ((List.range i).map fun j => ev (sq m ws s) p j % m)), some (.int (i : Int)), x11, x12] = some (.nx [some (.val (.wheel m ws)), a1, a2, a3, some (.val (.ints p)), a5, a6, some (.ints ((List.range (ws.length + ws.length)).map (sq m ws s))), a8, some (.ints ((List.range (i + 1)).map fun j => ev (sq m ws s) p j % m)), some (.int (i : Int)), x11, x12]) := by
      refine seq_go ?_ rfl
      show sApp 9 [] _ [some (.val (.wheel m ws)), a1, a2, a3, some (.val o4.toD), a5, a6, some (.ints ((List.range (ws.length + ws.length)).map (sq m ws s))), a8, some (.ints ((List.range i).map fun j => ev (sq m ws s) p j % m)), some (.int (i : Int)), x11, x12] = _
      rw [h4]
      refine (app_e ap rfl (by rw [List.length_map, List.length_map, List.length_range]; show _ < 100000; omega)).trans ?_
      show some (Out.nx [_, _, _, _, _, _, _, _, _, some (.nd .lst (((List.range i).map fun j => ev (sq m ws s) p j % m).map O.int ++ [.int (ev (sq m ws s) p i % m)])), _, _, _]) = some (Out.nx [_, _, _, _, _, _, _, _, _, some (.nd .lst (((List.range (i + 1)).map fun j => ev (sq m ws s) p j % m).map O.int)), _, _, _])
      rw [List.range_succ, List.map_append, List.map_append]
      rfl
    rw [st, ob]
    show forIn' _ _ _ _ = _
    exact ih
theorem sm_zeros (n : Nat) : Sm (List.replicate n 0) := fun x hx => by
  rw [List.eq_of_mem_replicate hx]
  decide
theorem sm_cons {x : Int} {p : List Int} (h : 0 ≤ x ∧ x < 1001) (hp : Sm p) : Sm (x :: p) := fun y hy => by
  rcases List.mem_cons.mp hy with rfl | hy
  · exact h
  · exact hp y hy
theorem cat_ints {x y : O} {xs ys : List Int} (hx : x.top = some (.lst, xs.map D.int)) (hy : y.top = some (.lst, ys.map D.int)) (h : xs.length + ys.length ≤ big) : dBin .Add x y = some (.ints (xs ++ ys)) := by
  refine (cat_e hx hy (by rw [List.length_map, List.length_map]; exact h)).trans ?_
  rw [← List.map_append, List.map_map]
  rfl
theorem far_ok {m : Int} {ws s : List Int} (h : Wh m ws) (hs : Ok m ws.length s) (k : Nat) : F__law_far [.val (.wheel m ws), .val (.ints s), .int (k : Int)] = some (.ints (itr (stp m ws) k s)) := by
  have h0 : 0 < m := by have := h.lo; omega
  have h1 := h.len
  have hm := h.hi
  have most := h.most
  -- the base
  have bs : ∃ q, Sm q ∧ Tk m ws.length (sq m ws s) q 1 ∧ ∀ (a4 a5 a6 a7 a8 a9 a10 a11 a12 : Option O), vIf (bT (vCmp .Gt (bVar 3) (bFz (vC (.int 1))))) (vBin .Add (bFz (vNd .lst [(vC (.int 0)), (vC (.int 1))])) (bFz (vBin .Mult (bFz (vNd .lst [(vC (.int 0))])) (bFz (vBin .Sub (bVar 3) (bFz (vC (.int 2)))))))) (vNd .lst [(vOf (bIx (bIx (bVar 0) (bFz (vC (.int 1)))) (bFz (vC (.int 0)))))]) [some (.val (.wheel m ws)), some (.val (.ints s)), some (.int (k : Int)), some (.int (ws.length : Int)), a4, a5, a6, a7, a8, a9, a10, a11, a12] = some (.ints q) := by
    by_cases hl : 1 < ws.length
    · refine ⟨_, sm_cons (by decide) (sm_cons (by decide) (sm_zeros _)), tk_x _ hl, fun a4 a5 a6 a7 a8 a9 a10 a11 a12 => e_if_t (e_T ((e_cmp rfl rfl (gt_e _ _)).trans (by rw [decide_eq_true (by omega)]))) ?_⟩
      have e : (ws.length - 2 : Nat) = ((ws.length : Int) - 2).toNat := by omega
      rw [e]
      have z := e_fz (e_bin (x := .val (.nd .lst [D.int 0])) (a := bFz (vNd .lst [(vC (.int 0))])) (b := bFz (vBin .Sub (bVar 3) (bFz (vC (.int 2))))) (t := [some (.val (.wheel m ws)), some (.val (.ints s)), some (.int (k : Int)), some (.int (ws.length : Int)), a4, a5, a6, a7, a8, a9, a10, a11, a12]) rfl (e_fz (e_bin rfl rfl (sub_e _ _))) (mulL_ints 0 ((ws.length : Int) - 2) (by omega) (by omega)))
      rw [toD_ints] at z
      refine e_bin (x := .val (.ints [0, 1])) rfl z (cat_ints (xs := [0, 1]) rfl rfl ?_)
      rw [List.length_replicate]
      show 2 + _ ≤ 100000
      omega
    · have l1 : ws.length = 1 := by omega
      obtain ⟨w, rfl⟩ : ∃ w, ws = [w] := List.length_eq_one_iff.mp l1
      have hw := h.rng w List.mem_cons_self
      refine ⟨[w], sm_cons (by omega) (sm_zeros 0), tk_w (fun i => sq_cg h0 h1 hs i), fun a4 a5 a6 a7 a8 a9 a10 a11 a12 => e_if_f (e_T ((e_cmp rfl rfl (gt_e _ _)).trans (by rw [decide_eq_false (by rw [l1]; decide)]))) ?_⟩
      exact e_nd (all_1 (e_of (e_ix (e_ix rfl rfl (wheel_1 m [w])) rfl (child_ints (j := 0) (Nat.zero_lt_one)))) all_0) (show 1 ≤ big by decide)
  obtain ⟨q, sq', tq, be⟩ := bs
  obtain ⟨p', q', sp', tp', wh⟩ := far_go h hs (a1 := some (.val (.ints s))) (a2 := some (.int (k : Int))) (a3 := some (.int (ws.length : Int))) (a7 := none) (a8 := none) (a9 := none) (a10 := none) (a11 := none) (a12 := none) k _ q 0 1 (sm_cons (by decide) (sm_zeros _)) sq' (tk_one _ h1) tq
  rw [Nat.one_mul, Nat.zero_add] at tp'
  have row0 : (O.ints s) = .ints ((List.range (ws.length + 0)).map (sq m ws s)) := by
    have := itr_sq h0 h1 hs 0
    have e0 : itr (stp m ws) 0 s = s := rfl
    rw [e0] at this
    rw [Nat.add_zero]
    conv => lhs; rw [this]
    simp only [Nat.zero_add]
  obtain ⟨y8, f3⟩ := far_3 h hs (a1 := some (.val (.ints s))) (a2 := some (.int (k : Int))) (a4 := some (.ints p')) (a5 := some (.ints q')) (a6 := some (.int 0)) (a9 := none) (a10 := none) (a11 := none) (a12 := none) ws.length 0 none (by omega)
  obtain ⟨z4, z10, z11, z12, f4⟩ := far_4 h hs sp' tp'.1 (a1 := some (.val (.ints s))) (a2 := some (.int (k : Int))) (a3 := some (.int (ws.length : Int))) (a5 := some (.ints q')) (a6 := some (.int 0)) (a8 := y8) ws.length 0 (.ints p') none none none (toD_ints p') (by omega)
  have big4 : ws.length ≤ big := Nat.le_trans most (by decide)
  refine fn_rt rfl (seq_go (t' := [some (.val (.wheel m ws)), some (.val (.ints s)), some (.int (k : Int)), some (.int (ws.length : Int)), none, none, none, none, none, none, none, none, none]) (e_asg (e_v1 (e_ix rfl rfl (wheel_1 m ws)) (len_ints ws))) (seq_go (t' := [some (.val (.wheel m ws)), some (.val (.ints s)), some (.int (k : Int)), some (.int (ws.length : Int)), some (.ints (1 :: List.replicate (ws.length - 1) 0)), none, none, none, none, none, none, none, none]) (e_asg ?_) (seq_go (t' := [some (.val (.wheel m ws)), some (.val (.ints s)), some (.int (k : Int)), some (.int (ws.length : Int)), some (.ints (1 :: List.replicate (ws.length - 1) 0)), some (.ints q), none, none, none, none, none, none, none]) (e_asg (be _ _ _ _ _ _ _ _ _)) (seq_go (t' := [some (.val (.wheel m ws)), some (.val (.ints s)), some (.int (k : Int)), some (.int (ws.length : Int)), some (.ints (1 :: List.replicate (ws.length - 1) 0)), some (.ints q), some (.int (k : Int)), none, none, none, none, none, none]) rfl (seq_go wh (seq_go (t' := [some (.val (.wheel m ws)), some (.val (.ints s)), some (.int (k : Int)), some (.int (ws.length : Int)), some (.ints p'), some (.ints q'), some (.int 0), some (.ints ((List.range (ws.length + 0)).map (sq m ws s))), none, none, none, none, none]) (by rw [← row0]; exact e_asg (e_v1 rfl (list_ints s))) (seq_go (e_for (wr1' rfl big4) f3) (seq_go (t' := [some (.val (.wheel m ws)), some (.val (.ints s)), some (.int (k : Int)), some (.int (ws.length : Int)), some (.ints p'), some (.ints q'), some (.int 0), some (.ints ((List.range (ws.length + ws.length)).map (sq m ws s))), y8, some (.ints []), none, none, none]) rfl (seq_go (e_for (wr1' rfl big4) f4) (seq_rt ?_))))))))))
  · have e : (ws.length - 1 : Nat) = ((ws.length : Int) - 1).toNat := by omega
    rw [e]
    have z := e_fz (e_bin (x := .val (.nd .lst [D.int 0])) (a := bFz (vNd .lst [(vC (.int 0))])) (b := bFz (vBin .Sub (bVar 3) (bFz (vC (.int 1))))) (t := [some (.val (.wheel m ws)), some (.val (.ints s)), some (.int (k : Int)), some (.int (ws.length : Int)), none, none, none, none, none, none, none, none, none]) rfl (e_fz (e_bin rfl rfl (sub_e _ _))) (mulL_ints 0 ((ws.length : Int) - 1) (by omega) (by omega)))
    rw [toD_ints] at z
    refine e_bin (x := .val (.ints [1])) rfl z (cat_ints (xs := [1]) rfl rfl ?_)
    rw [List.length_replicate]
    show 1 + _ ≤ 100000
    omega
  · rw [← tk_state h0 h1 hs tp']
    rfl
theorem dRev_ints (ws : List Int) : dRev (.val (.ints ws)) = some (.ints ws.reverse) := by
  show some (O.nd .lst ((ws.map D.int).reverse.map O.val)) = _
  rw [← List.map_reverse, List.map_map]
  rfl
theorem mRev_ints (b : List Int) : mRev .lst (b.map O.int) = some (.lst, b.reverse.map O.int) := by
  show (O.vals? (b.map O.int)).map (fun ds => (Nk.lst, ds.reverse.map O.val)) = _
  rw [show O.vals? (b.map O.int) = some (b.map D.int) from vals_mapI b, om, ← List.map_reverse, List.map_map]
  rfl
theorem rev_0 {t : Tau} {i : Nat} {b : List Int} (h : bVar i t = some (.ints b)) : sRev i [] t = some (.nx (t.set i (some (.ints b.reverse)))) := by
  unfold sRev sMod
  rw [h, ob]
  show (((mRev .lst (b.map O.int)).map fun r => O.nd r.1 r.2).map _) = _
  rw [mRev_ints]
  rfl
theorem rev_1 {t : Tau} {i : Nat} {m : Int} {b : List Int} (h : bVar i t = some (.nd .tup [.int m, .ints b])) : sRev i [.ix 1] t = some (.nx (t.set i (some (.nd .tup [.int m, .ints b.reverse])))) := by
  unfold sRev sMod
  rw [h, ob]
  show (((((mRev .lst (b.map O.int)).map fun r => O.nd r.1 r.2)).map fun o => (O.nd .tup [.int m, .ints b]).putAt 1 o).map _) = _
  rw [mRev_ints]
  rfl
theorem pw9 (t : Tau) : bFz (vBin .Pow (bFz (vC (.int 10))) (bFz (vC (.int 9)))) t = some (.int 1000000000) := (e_fz (e_bin rfl rfl (pow_e (i := 10) (j := 9) (by decide) (by decide)))).trans rfl
theorem pw17 (t : Tau) : bFz (vBin .Pow (bFz (vC (.int 10))) (bFz (vC (.int 17)))) t = some (.int 100000000000000000) := (e_fz (e_bin rfl rfl (pow_e (i := 10) (j := 17) (by decide) (by decide)))).trans rfl
theorem pw30 (t : Tau) : bFz (vBin .Pow (bFz (vC (.int 10))) (bFz (vC (.int 30)))) t = some (.int 1000000000000000000000000000000) := (e_fz (e_bin rfl rfl (pow_e (i := 10) (j := 30) (by decide) (by decide)))).trans rfl
theorem itr_fix {α : Type} (g : α → α) (s : α) (h : g s = s) : ∀ n, itr g n s = s
  | 0 => rfl
  | n + 1 => by
    rw [itr_succ, itr_fix g s h n, h]
theorem ne_same {x y : VE} {t : Tau} {p : List Int} {o q : O} (hx : x t = some o) (hy : y t = some q) (ho : o.toD = .ints p) (hq : q.toD = .ints p) : bT (vCmp .NotEq x y) t = some false := by
  refine e_T (e_cmp (k := false) hx hy ?_)
  show ((dEq o.toD q.toD).map (!·)) = _
  rw [ho, hq, dEq_ints, decide_eq_true rfl]
  rfl
theorem fz_ints {a : VE} {t : Tau} {p : List Int} (h : a t = some (.ints p)) : bFz a t = some (.val (.ints p)) := by
  rw [e_fz h, toD_ints]
theorem toD_wo (m : Int) (ws : List Int) : (O.nd .tup [.int m, .ints ws]).toD = .wheel m ws := by
  rw [O.toD, O.toDs, O.toDs, O.toDs, toD_ints]
  rfl
theorem a_owheel {b : VE} {t : Tau} {m : Int} {ws : List Int} (h : b t = some (.nd .tup [.int m, .ints ws])) : aPl b t = some (.val (.wheel m ws), false) := by
  unfold aPl
  rw [h, om, toD_wo]
  rfl
end Den

/-! M2: the way back. -/
namespace Mt
theorem dot_cg (m : Int) : ∀ (u v s : List Int), u.length = v.length → (∀ i, Cg m (u.getD i 0) (v.getD i 0)) → Cg m (dot u s) (dot v s)
  | [], [], _, _, _ => Cg.rfl'
  | _ :: _, [], _, h, _ => by cases h
  | [], _ :: _, _, h, _ => by cases h
  | x :: u, y :: v, [], _, _ => by rw [dot_nil', dot_nil']; exact Cg.rfl'
  | x :: u, y :: v, z :: s, h, k => by
    rw [dot_cons, dot_cons]
    exact ((k 0).mul' z).add (dot_cg m u v s (by simpa using h) fun i => k (i + 1))
theorem dot_snoc : ∀ (u s : List Int) (x y : Int), u.length = s.length → dot (u ++ [x]) (s ++ [y]) = dot u s + x * y
  | [], [], x, y, _ => by
    show x * y + 0 = 0 + x * y
    omega
  | _ :: _, [], _, _, h => by cases h
  | [], _ :: _, _, _, h => by cases h
  | a :: u, b :: s, x, y, h => by
    rw [List.cons_append, List.cons_append, dot_cons, dot_cons, dot_snoc u s x y (by simpa using h)]
    omega
theorem dot_neg (c : Int) : ∀ (u s : List Int), dot (u.map fun w => c * w) s = c * dot u s
  | [], s => by rw [List.map_nil, dot_nil]; omega
  | a :: u, [] => by rw [dot_nil', dot_nil']; omega
  | a :: u, b :: s => by
    rw [List.map_cons, dot_cons, dot_cons, dot_neg c u s, Int.mul_add, Int.mul_assoc]
/-- the row that makes the number before -/
def fst' (m sh : Int) (ws : List Int) : List Int := ((ws.drop 1).map fun w => -sh * w % m) ++ [sh % m]
def und (m sh : Int) (ws : List Int) : List (List Int) := fst' m sh ws :: (List.range (ws.length - 1)).map fun (row : Nat) => (List.range ws.length).map fun (at' : Nat) => (if at' = row then (1 : Int) else 0) % m
def bck (m sh : Int) (ws s : List Int) : List Int := dot (fst' m sh ws) s % m :: s.dropLast
theorem dot_fst {m sh : Int} {ws s : List Int} (h1 : 1 ≤ ws.length) (hs : s.length = ws.length) : Cg m (dot (fst' m sh ws) s) (sh * (s.getD (ws.length - 1) 0 - dot (ws.drop 1) s.dropLast)) := by
  have hne : s ≠ [] := by
    intro e
    rw [e] at hs
    simp at hs
    omega
  have e : s = s.dropLast ++ [s.getD (ws.length - 1) 0] := by
    conv => lhs; rw [← List.dropLast_concat_getLast hne]
    congr 2
    rw [List.getLast_eq_getElem, List.getD_eq_getElem?_getD, List.getElem?_eq_getElem (by omega)]
    simp only [hs]
    rfl
  have ld : s.dropLast.length = ws.length - 1 := by rw [List.length_dropLast, hs]
  generalize s.getD (ws.length - 1) 0 = y at e ⊢
  generalize s.dropLast = d at e ld ⊢
  subst e
  unfold fst'
  rw [dot_snoc _ _ _ _ (by rw [List.length_map, List.length_drop, ld])]
  have c1 : Cg m (dot ((ws.drop 1).map fun w => -sh * w % m) d) (-sh * dot (ws.drop 1) d) := by
    rw [← dot_neg]
    have : ((ws.drop 1).map fun w => -sh * w % m) = ((ws.drop 1).map fun w => -sh * w).map (· % m) := by
      rw [List.map_map]
      rfl
    rw [this]
    exact Cg.of_emod (dot_mod m _ d)
  have c2 : Cg m (sh % m * y) (sh * y) := (Cg.mod m sh).mul' y
  refine (c1.add c2).trans (Cg.of_eq ?_)
  rw [Int.mul_sub, Int.neg_mul]
  omega
theorem ok_bck {m sh : Int} {ws s : List Int} (hm : 0 < m) (h1 : 1 ≤ ws.length) (hs : Ok m ws.length s) : Ok m ws.length (bck m sh ws s) := by
  refine ⟨?_, fun x hx => ?_⟩
  · unfold bck
    rw [List.length_cons, List.length_dropLast, hs.len]
    omega
  · rcases List.mem_cons.mp hx with rfl | hx
    · exact ⟨Int.emod_nonneg _ (by omega), Int.emod_lt_of_pos _ hm⟩
    · exact hs.rng x ((List.dropLast_sublist s).subset hx)
theorem rng_eq {m x y : Int} (hx : 0 ≤ x ∧ x < m) (hy : 0 ≤ y ∧ y < m) (h : Cg m x y) : x = y := by
  have := h.emod
  rw [Int.emod_eq_of_lt hx.1 hx.2, Int.emod_eq_of_lt hy.1 hy.2] at this
  exact this
theorem getD_rng {m : Int} {n : Nat} {s : List Int} (hs : Ok m n s) {j : Nat} (hj : j < n) : 0 ≤ s.getD j 0 ∧ s.getD j 0 < m := by
  have hl : j < s.length := by rw [hs.len]; exact hj
  rw [List.getD_eq_getElem?_getD, List.getElem?_eq_getElem hl]
  exact hs.rng _ (List.getElem_mem hl)
/-- a step undone -/
theorem stp_bck {m sh : Int} {ws s : List Int} (hm : 0 < m) (h1 : 1 ≤ ws.length) (hsh : Cg m (sh * ws.getD 0 0) 1) (hs : Ok m ws.length s) : stp m ws (bck m sh ws s) = s := by
  have hl := hs.len
  have hne : s ≠ [] := by
    intro e
    rw [e] at hl
    simp at hl
    omega
  have key : dot ws (bck m sh ws s) % m = s.getD (ws.length - 1) 0 := by
    refine rng_eq ⟨Int.emod_nonneg _ (by omega), Int.emod_lt_of_pos _ hm⟩ (getD_rng hs (by omega)) ((Cg.mod m _).trans ?_)
    obtain ⟨w, r, rfl⟩ : ∃ w r, ws = w :: r := by
      cases ws with
      | nil => simp at h1
      | cons w r => exact ⟨w, r, rfl⟩
    unfold bck
    rw [dot_cons]
    have c1 := ((Cg.mod m _).trans (dot_fst (m := m) (sh := sh) h1 hl)).mul w
    have hsh : Cg m (sh * w) 1 := hsh
    show Cg m (w * (dot (fst' m sh (w :: r)) s % m) + dot r s.dropLast) _
    have hd : (w :: r).drop 1 = r := rfl
    rw [hd] at c1
    generalize s.getD ((w :: r).length - 1) 0 = y at c1 ⊢
    generalize dot r s.dropLast = z at c1 ⊢
    have c2 : Cg m (w * (sh * (y - z))) (y - z) := by
      have := hsh.mul' (y - z)
      rw [Int.one_mul] at this
      rw [← Int.mul_assoc, Int.mul_comm w sh]
      exact this
    refine ((c1.trans c2).add (Cg.rfl' (x := z))).trans (Cg.of_eq ?_)
    omega
  show (bck m sh ws s).drop 1 ++ [dot ws (bck m sh ws s) % m] = s
  rw [key]
  show s.dropLast ++ [s.getD (ws.length - 1) 0] = s
  conv => rhs; rw [← List.dropLast_concat_getLast hne]
  congr 2
  rw [List.getLast_eq_getElem, List.getD_eq_getElem?_getD, List.getElem?_eq_getElem (by omega)]
  simp only [hl]
  rfl
theorem bck_stp {m sh : Int} {ws s : List Int} (hm : 0 < m) (h1 : 1 ≤ ws.length) (hsh : Cg m (sh * ws.getD 0 0) 1) (hs : Ok m ws.length s) : bck m sh ws (stp m ws s) = s := by
  have hl := hs.len
  have ok2 := ok_stp (ws := ws) hm h1 hs
  obtain ⟨w, r, rfl⟩ : ∃ w r, ws = w :: r := by
    cases ws with
    | nil => simp at h1
    | cons w r => exact ⟨w, r, rfl⟩
  obtain ⟨x, q, rfl⟩ : ∃ x q, s = x :: q := by
    cases s with
    | nil => simp at hl
    | cons x q => exact ⟨x, q, rfl⟩
  have hx := hs.rng x List.mem_cons_self
  have hsh : Cg m (sh * w) 1 := hsh
  have e : stp m (w :: r) (x :: q) = q ++ [dot (w :: r) (x :: q) % m] := rfl
  have dl : (stp m (w :: r) (x :: q)).dropLast = q := by rw [e, List.dropLast_concat]
  have gl : (stp m (w :: r) (x :: q)).getD ((w :: r).length - 1) 0 = dot (w :: r) (x :: q) % m := by
    have lq : q.length = r.length := by simpa using hl
    rw [e, List.getD_eq_getElem?_getD, List.getElem?_append_right (by rw [lq]; simp)]
    rw [show (w :: r).length - 1 - q.length = 0 by rw [lq]; simp]
    rfl
  have key : dot (fst' m sh (w :: r)) (stp m (w :: r) (x :: q)) % m = x := by
    refine rng_eq ⟨Int.emod_nonneg _ (by omega), Int.emod_lt_of_pos _ hm⟩ hx ((Cg.mod m _).trans ((dot_fst h1 ok2.len).trans ?_))
    rw [gl, dl]
    show Cg m (sh * (dot (w :: r) (x :: q) % m - dot r q)) x
    rw [dot_cons]
    have c1 : Cg m ((w * x + dot r q) % m - dot r q) (w * x) := by
      obtain ⟨k, hk⟩ := Cg.mod m (w * x + dot r q)
      exact ⟨k, by omega⟩
    refine (c1.mul sh).trans ?_
    have := hsh.mul' x
    rw [Int.one_mul, Int.mul_assoc] at this
    exact this
  show dot (fst' m sh (w :: r)) (stp m (w :: r) (x :: q)) % m :: (stp m (w :: r) (x :: q)).dropLast = x :: q
  rw [key, dl]
theorem itr_cancel {α : Type} {f g : α → α} {P : α → Prop} (hf : ∀ s, P s → P (f s)) (hg : ∀ s, P s → g (f s) = s) : ∀ (n : Nat) (s : α), P s → itr g n (itr f n s) = s
  | 0, s, _ => rfl
  | n + 1, s, h => by
    have pf : ∀ n s, P s → P (itr f n s) := by
      intro n
      induction n with
      | zero => intro s h; exact h
      | succ n ih => intro s h; rw [itr_succ]; exact hf _ (ih s h)
    rw [itr_succ f n s, show n + 1 = n + 1 from rfl, itr_add g n 1]
    show itr g n (g (f (itr f n s))) = s
    rw [hg _ (pf n s h)]
    exact itr_cancel hf hg n s h
theorem act_und {m sh : Int} {ws s : List Int} (hm : 0 < m) (h1 : 1 ≤ ws.length) (hs : Ok m ws.length s) : act m (und m sh ws) s = bck m sh ws s := by
  unfold act und bck
  rw [List.map_cons]
  congr 1
  rw [List.map_map]
  have hl := hs.len
  apply List.ext_getElem?
  intro i
  by_cases hi : i < ws.length - 1
  · rw [List.getElem?_map, List.getElem?_range hi]
    have e : s.dropLast[i]? = some (s.getD i 0) := by
      rw [List.getElem?_dropLast, if_pos (by omega), List.getD_eq_getElem?_getD, List.getElem?_eq_getElem (by omega)]
      rfl
    rw [e]
    show some (dot ((List.range ws.length).map fun (at' : Nat) => (if at' = i then (1 : Int) else 0) % m) s % m) = _
    congr 1
    have e2 : ((List.range ws.length).map fun (at' : Nat) => (if at' = i then (1 : Int) else 0) % m) = ((List.range ws.length).map fun (at' : Nat) => (if at' = i then (1 : Int) else 0)).map (· % m) := by
      rw [List.map_map]
      rfl
    have gd := getD_rng hs (show i < ws.length by omega)
    rw [e2, dot_mod, List.range_eq_range', ← hl, dot_unit 1 i s 0 (Nat.zero_le _), Nat.sub_zero, Int.one_mul]
    exact Int.emod_eq_of_lt gd.1 gd.2
  · rw [List.getElem?_eq_none (by rw [List.length_map, List.length_range]; omega), List.getElem?_eq_none (by rw [List.length_dropLast]; omega)]
theorem sq_und {m sh : Int} {ws : List Int} (hm : 0 < m) (h1 : 1 ≤ ws.length) : Sq m ws.length (und m sh ws) := by
  have r1 : ∀ x : Int, 0 ≤ x % m ∧ x % m < m := fun x => ⟨Int.emod_nonneg _ (by omega), Int.emod_lt_of_pos _ hm⟩
  refine ⟨?_, fun r hr => ?_, fun r hr x hx => ?_⟩
  · unfold und
    rw [List.length_cons, List.length_map, List.length_range]
    omega
  · rcases List.mem_cons.mp hr with rfl | hr
    · unfold fst'
      rw [List.length_append, List.length_map, List.length_drop]
      show ws.length - 1 + 1 = _
      omega
    · obtain ⟨j, _, rfl⟩ := List.mem_map.mp hr
      rw [List.length_map, List.length_range]
  · rcases List.mem_cons.mp hr with rfl | hr
    · rcases List.mem_append.mp hx with hx | hx
      · obtain ⟨w, _, rfl⟩ := List.mem_map.mp hx
        exact r1 _
      · rw [List.mem_singleton.mp hx]
        exact r1 _
    · obtain ⟨j, _, rfl⟩ := List.mem_map.mp hr
      obtain ⟨i, _, rfl⟩ := List.mem_map.mp hx
      exact r1 _
end Mt

/-! M3: what two numbers have in common, as the text reckons it. -/
namespace Mt
theorem gcd_step (a b : Nat) (h : 0 < b) : Nat.gcd a b = Nat.gcd b (a % b) := by
  rw [Nat.gcd_comm a b, Nat.gcd_rec, Nat.gcd_comm]
/-- of the numbers from first on some have nothing in common with m -/
theorem gcd_free (m f : Nat) (hm : 1 ≤ m) : ∃ k, Nat.gcd m (f + k) = 1 := by
  refine ⟨(m - f % m) + 1, ?_⟩
  have h1 : f % m < m := Nat.mod_lt _ hm
  have h2 : f + ((m - f % m) + 1) = 1 + m * (f / m + 1) := by
    have := Nat.div_add_mod f m
    rw [Nat.mul_add, Nat.mul_one]
    omega
  rw [h2, Nat.gcd_add_mul_left_right, Nat.gcd_one_right]
end Mt

/-! PB: the way back. -/
namespace Den
open PySem L2 Mt
local macro_rules | `(tactic| walk_at "den") => `(tactic| (all_goals (try simp only [fnOf, sSeq, sFz, sAsg, sPar, sUnp, sDrop, sRet, sRetN, sIf, sNext, sNever, sPut, sApp, sMod, modAt, mApp, mPut, fzAt, fzAll, vAll, setAll, gN, gT, gSet, wipeT, vOf, bFz, vC, v1, v2, vBin, vNeg, vCmp, vChain, vAnd, vOr, vNot, bT, bAnd, bOr, bNot, vIf, bIx, dIx, O.isDict, vSl, opI, vNd, vCall, aAll, aPl, aNp, aMv, wSeq, wRange1, wRange2, wRange3, wZip, wEnum, bVar, bYes, dBin, dSub, dMod, dFdiv, dPow, dShl, dShr, i2, dNeg, dCmp, c2, dIs, dInt, dAbs, dMax, dMin, O.child, O.fz, O.toD, O.toDs, O.isVal, O.int?, O.bl?, O.v?, O.allFlat, O.allFlats, ob, om, Option.map_some, Option.bind_some, Option.map_none, Option.bind_none, Option.join_some, Option.join_none, List.length_cons, List.length_nil, List.map_cons, List.map_nil, List.replicate, List.cons_append, List.nil_append, List.getElem?_cons_zero, List.getElem?_cons_succ, List.set_cons_zero, List.set_cons_succ, if_true, if_false, Bool.false_eq_true, reduceIte, Nat.reduceAdd, Nat.reduceSub, Nat.reduceEqDiff, Bool.not_true, Bool.not_false, Bool.and_true, Bool.true_and, Bool.and_false, Bool.false_and, List.all_cons, List.all_nil, true_or, or_true, true_and, and_true, O.ty, dIsB, dAll, dAny, dSum, dLen, dList, dTuple, O.top, O.vals?, dSl, dAdd, dMul, ints?_map, ints?_map', bls?_map, bls?_map', toDs_map', vals_map', toDs_ints, vals_map, toDs_vals, List.length_map, dEq_int, dEq_ints, dEq_bl, cut_map, decide_true, decide_false, decide_eq_true_eq, Bool.not_eq_true', kit_ii, kit_ib, kit_ll, kit_tt, allFlats_ints, vals_mapI, Int.cast_ofNat_Int, Int.reduceAdd, Int.reduceSub, Int.reduceMul, Int.reduceNeg, Int.reduceLT, Int.reduceLE, Int.reduceEq, Int.reduceMod, Int.reduceDiv, Int.reducePow, Int.reduceToNat, Nat.reduceMul, Nat.reducePow, Nat.reduceLeDiff, Nat.reduceLT, decide_not, Int.ofNat_one, Int.ofNat_zero, ne_eq, not_true, not_false_iff, Int.reduceNe])))
noncomputable def W__law_common_1 : BE := (bT (vCmp .Gt (bVar 1) (bFz (vC (.int 0)))))
noncomputable def W__law_common_2 : SE := (sSeq (sFz [1] (sPar [0, 1] [(vOf (bVar 1)), (vBin .Mod (bVar 0) (bVar 1))])) sNext)
noncomputable def B__law_common : SE := (sSeq (sWhile W__law_common_1 W__law_common_2) (sSeq (sRetN 0) sNext))
noncomputable def F__law_common : Fn := fnOf 2 2 B__law_common
noncomputable def W__law_going_1 : BE := (bT (vCmp .Gt (bFz (vCall F__law_common [(aPl (bIx (bVar 2) (bFz (vC (.int 0))))), (aPl (bVar 4))])) (bFz (vC (.int 1)))))
noncomputable def W__law_going_2 : SE := (sSeq (sAsg 4 (vBin .Add (bVar 4) (bFz (vC (.int 1))))) sNext)
noncomputable def B__law_going : SE := (sSeq (sUnp [2, 3] (bFz (vCall F__law_wheel [(aPl (bVar 0)), (aPl (bVar 1)), (aNp (vC (.int 4)))]))) (sSeq (sAsg 4 (vOf (bIx (bIx (bVar 2) (bFz (vC (.int 1)))) (bFz (vC (.int 0)))))) (sSeq (sWhile W__law_going_1 W__law_going_2) (sSeq (sRet (vNd .tup [(vNd .tup [(vOf (bIx (bVar 2) (bFz (vC (.int 0))))), (vBin .Add (bFz (vNd .lst [(vBin .Mod (bVar 4) (bIx (bVar 2) (bFz (vC (.int 0)))))])) (bFz (vSl (bIx (bVar 2) (bFz (vC (.int 1)))) (some (bFz (vC (.int 1)))) none)))]), (vOf (bVar 3))])) sNext))))
noncomputable def F__law_going : Fn := fnOf 2 5 B__law_going
noncomputable def W__law_walk_1 : SE := (sSeq (sAsg 1 (vCall F__law_step [(aPl (bVar 0)), (aPl (bVar 1))])) sNext)
noncomputable def B__law_walk : SE := (sSeq (sFor (wRange1 (bVar 2)) (gN 3) W__law_walk_1) (sSeq (sRetN 1) sNext))
noncomputable def F__law_walk : Fn := fnOf 3 4 B__law_walk
/-! ### what two numbers have in common -/
theorem common_ok {F : Fn} {c : BE} {b : SE} (hF : F = fnOf 2 2 (sSeq (sWhile c b) (sSeq (sRetN 0) sNext))) (hc : c = bT (vCmp .Gt (bVar 1) (bFz (vC (.int 0))))) (hb : b = sSeq (sFz [1] (sPar [0, 1] [(vOf (bVar 1)), (vBin .Mod (bVar 0) (bVar 1))])) sNext) (x y : Nat) : F [.int (x : Int), .int (y : Int)] = some (.int (Nat.gcd x y : Int)) := by
  have go : ∀ (y x : Nat), sWhile c b [some (.int (x : Int)), some (.int (y : Int))] = some (.nx [some (.int (Nat.gcd x y : Int)), some (.int 0)]) := by
    intro y
    induction y using Nat.strongRecOn with
    | ind y ih =>
      intro x
      by_cases h : y = 0
      · subst h
        rw [Nat.gcd_zero_right]
        refine while_end ?_
        subst hc
        exact e_T ((e_cmp rfl rfl (gt_e _ _)).trans rfl)
      · have e := ih (x % y) (Nat.mod_lt _ (by omega)) y
        rw [← gcd_step x y (by omega)] at e
        refine while_turn (t2 := [some (.int (y : Int)), some (.int ((x % y : Nat) : Int))]) ?_ ?_ e
        · subst hc
          exact e_T ((e_cmp rfl rfl (gt_e _ _)).trans (by rw [decide_eq_true (by omega)]))
        · subst hb
          refine seq_go (par_e (t := [some (.int (x : Int)), some (.int (y : Int))]) (all_1 (e_of rfl) (all_1 (o := .int ((x % y : Nat) : Int)) (e_bin rfl rfl ((mod_e (by omega)).trans (by rw [Int.natCast_emod]))) all_0)) rfl) rfl
  rw [hF]
  exact fn_rt rfl (seq_go (go y x) (seq_rt rfl))
theorem common_nat (x y : Nat) : F_common [.int (x : Int), .int (y : Int)] = some (.int (Nat.gcd x y : Int)) := common_ok rfl rfl rfl x y
theorem common_int {x y : Int} (hx : 0 ≤ x) (hy : 0 ≤ y) : F_common [.int x, .int y] = some (.int (Nat.gcd x.toNat y.toNat : Int)) := by
  have := common_nat x.toNat y.toNat
  rw [Int.toNat_of_nonneg hx, Int.toNat_of_nonneg hy] at this
  exact this
abbrev Gb (m : Int) (ws : List Int) : Prop := Nat.gcd m.toNat (ws.getD 0 0).toNat = 1
theorem head_rng {m : Int} {ws : List Int} (h : Wh m ws) : 0 ≤ ws.getD 0 0 ∧ ws.getD 0 0 < m := by
  have hl : 0 < ws.length := h.len
  rw [List.getD_eq_getElem?_getD, List.getElem?_eq_getElem hl]
  exact h.rng _ (List.getElem_mem hl)
theorem goes_back_ok {m : Int} {ws : List Int} (h : Wh m ws) : F_goes_back [.val (.wheel m ws)] = some (.bl (decide (Gb m ws))) := by
  have h0 := h.lo
  have hd := head_rng h
  refine fn_rt rfl (seq_rt (e_ret ((e_cmp (e_fz (e_call (as_t (a_pl (e_ix rfl rfl (wheel_m m ws))) (as_t (a_pl (e_ix (e_ix rfl rfl (wheel_1 m ws)) rfl (child_ints (j := 0) h.len))) as_0)) (common_int (by omega) hd.1))) rfl (eq_e _ _)).trans ?_)))
  congr 2
  by_cases z : Nat.gcd m.toNat (ws.getD 0 0).toNat = 1
  · rw [decide_eq_true z, decide_eq_true (by omega)]
  · rw [decide_eq_false z, decide_eq_false (by omega)]
/-! ### the share that undoes -/
theorem pow_log {x : Int} {j : Nat} (h : x.natAbs ≤ 1001 ^ j) (hj : j ≤ 1010) : x.natAbs.log2 < 20000 := by
  refine PySem.Flt.log2_lt_of (by decide) (Nat.lt_of_le_of_lt h ?_)
  have h1 : (1001 : Nat) ^ j ≤ (2 ^ 10) ^ j := Nat.pow_le_pow_left (by decide) j
  rw [← Nat.pow_mul] at h1
  exact Nat.lt_of_le_of_lt h1 (Nat.pow_lt_pow_right (by decide) (by omega))
theorem inv_go {m nu : Int} {x0 : Option O} : ∀ (other one : Nat) (mine theirs : Int) (j : Nat) (x6 : Option O), other < one → one ≤ 1000 → j + other ≤ 1001 → mine.natAbs ≤ 1001 ^ j → theirs.natAbs ≤ 1001 ^ j → Cg m (mine * nu) one → Cg m (theirs * nu) other →
    ∃ (r : Int) (x3 x5 y6 : Option O), Cg m (r * nu) (Nat.gcd one other : Int) ∧ sWhile W_inverse_1 W_inverse_2 [x0, some (.int m), some (.int (one : Int)), some (.int (other : Int)), some (.int mine), some (.int theirs), x6] = some (.nx [x0, some (.int m), some (.int (Nat.gcd one other : Int)), x3, some (.int r), x5, y6]) := by
  intro other
  induction other using Nat.strongRecOn with
  | ind other ih =>
    intro one mine theirs j x6 h1 h2 h3 h4 h5 h6 h7
    by_cases h : other = 0
    · subst h
      rw [Nat.gcd_zero_right]
      exact ⟨mine, _, _, _, h6, while_end (e_T ((e_cmp rfl rfl (gt_e _ _)).trans rfl))⟩
    · have dm := Nat.div_add_mod one other
      have ml : one % other < other := Nat.mod_lt _ (by omega)
      have q1 : one / other ≤ one := Nat.div_le_self _ _
      have c1 : ((one / other : Nat) : Int) = (one : Int) / (other : Int) := Int.natCast_ediv _ _
      have c2 : (one : Int) - ((one / other : Nat) : Int) * (other : Int) = ((one % other : Nat) : Int) := by
        rw [← Int.natCast_mul, Nat.mul_comm]
        omega
      have b2 : (mine - ((one / other : Nat) : Int) * theirs).natAbs ≤ 1001 ^ (j + 1) := by
        have e1 : (((one / other : Nat) : Int) * theirs).natAbs = (one / other) * theirs.natAbs := by rw [Int.natAbs_mul]; rfl
        have e2 : (one / other) * theirs.natAbs ≤ 1000 * 1001 ^ j := Nat.mul_le_mul (by omega) h5
        have e3 : (1001 : Nat) ^ (j + 1) = 1000 * 1001 ^ j + 1001 ^ j := by rw [Nat.pow_succ]; omega
        omega
      have b1 : theirs.natAbs ≤ 1001 ^ (j + 1) := Nat.le_trans h5 (Nat.pow_le_pow_right (by decide) (by omega))
      have g2 : Cg m ((mine - ((one / other : Nat) : Int) * theirs) * nu) ((one % other : Nat) : Int) := by
        rw [← c2, Int.sub_mul, Int.mul_assoc]
        obtain ⟨u, hu⟩ := h6
        obtain ⟨v, hv⟩ := h7.mul ((one / other : Nat) : Int)
        exact ⟨u - v, by rw [Int.mul_sub]; omega⟩
      obtain ⟨r, x3, x5, y6, i1, i2⟩ := ih (one % other) ml other theirs (mine - ((one / other : Nat) : Int) * theirs) (j + 1) (some (.int ((one / other : Nat) : Int))) ml (by omega) (by omega) b1 b2 h7 g2
      rw [← gcd_step one other (by omega)] at i1 i2
      have lo : ((one / other : Nat) : Int).natAbs.log2 < 20000 := PySem.Flt.log2_lt_of (by decide) (Nat.lt_of_le_of_lt (show ((one / other : Nat) : Int).natAbs ≤ 1000 by rw [Int.natAbs_natCast]; omega) (Nat.lt_of_lt_of_le (by decide : 1000 < 2 ^ 10) (Nat.pow_le_pow_right (by decide) (by decide))))
      have lo2 : (other : Int).natAbs.log2 < 20000 := PySem.Flt.log2_lt_of (by decide) (Nat.lt_of_le_of_lt (show (other : Int).natAbs ≤ 1000 by omega) (Nat.lt_of_lt_of_le (by decide : 1000 < 2 ^ 10) (Nat.pow_le_pow_right (by decide) (by decide))))
      have lo3 := pow_log h5 (by omega)
      refine ⟨r, x3, x5, y6, i1, while_turn (t2 := [x0, some (.int m), some (.int (other : Int)), some (.int ((one % other : Nat) : Int)), some (.int theirs), some (.int (mine - ((one / other : Nat) : Int) * theirs)), some (.int ((one / other : Nat) : Int))]) (e_T ((e_cmp rfl rfl (gt_e _ _)).trans (by rw [decide_eq_true (by omega)]))) (seq_go (t' := [x0, some (.int m), some (.int (one : Int)), some (.int (other : Int)), some (.int mine), some (.int theirs), some (.int ((one / other : Nat) : Int))]) (e_asg (e_bin rfl rfl ((div_e (by omega) (show (other : Int).natAbs.log2 < 9000 from Nat.lt_of_lt_of_le (show (other : Int).natAbs.log2 < 10 from PySem.Flt.log2_lt_of (by decide) (show (other : Int).natAbs < 2 ^ 10 by omega)) (by decide))).trans (by rw [c1])))) (seq_go (t' := [x0, some (.int m), some (.int (other : Int)), some (.int ((one % other : Nat) : Int)), some (.int mine), some (.int theirs), some (.int ((one / other : Nat) : Int))]) (par_e (t := [x0, some (.int m), some (.int (one : Int)), some (.int (other : Int)), some (.int mine), some (.int theirs), some (.int ((one / other : Nat) : Int))]) (all_1 (e_of rfl) (all_1 (o := .int ((one % other : Nat) : Int)) (e_bin rfl (e_fz (e_bin rfl rfl (mul_e (by omega)))) (by rw [← c2]; rfl)) all_0)) rfl) (seq_go (par_e (t := [x0, some (.int m), some (.int (other : Int)), some (.int ((one % other : Nat) : Int)), some (.int mine), some (.int theirs), some (.int ((one / other : Nat) : Int))]) (all_1 (e_of rfl) (all_1 (e_bin rfl (e_fz (e_bin rfl rfl (mul_e (by omega)))) (sub_e _ _)) all_0)) rfl) rfl))) i2⟩
theorem inverse_ex {m nu : Int} (h0 : 1 ≤ m) (hm : m ≤ 1000) (hn : 0 ≤ nu ∧ nu < m) : ∃ r : Int, 0 ≤ r ∧ r < m ∧ Cg m (r * nu) (Nat.gcd m.toNat nu.toNat : Int) ∧ F_inverse [.int nu, .int m] = some (.int r) := by
  have e1 : nu % m = nu := Int.emod_eq_of_lt hn.1 hn.2
  have cm : ((m.toNat : Nat) : Int) = m := Int.toNat_of_nonneg (by omega)
  have cn : ((nu.toNat : Nat) : Int) = nu := Int.toNat_of_nonneg hn.1
  obtain ⟨r, x3, x5, y6, i1, i2⟩ := inv_go (m := m) (nu := nu) (x0 := some (.int nu)) nu.toNat m.toNat 0 1 0 none (by omega) (by omega) (by omega) (by decide) (by decide) (by rw [cm, Int.zero_mul]; exact ⟨-1, by omega⟩) (by rw [cn, Int.one_mul]; exact Cg.rfl')
  rw [cm, cn] at i2
  refine ⟨r % m, Int.emod_nonneg _ (by omega), Int.emod_lt_of_pos _ (by omega), ((Cg.mod m r).mul' nu).trans i1, fn_rt rfl (seq_go (t' := [some (.int nu), some (.int m), some (.int m), some (.int nu), some (.int 0), some (.int 1), none]) (par_e (t := [some (.int nu), some (.int m), none, none, none, none, none]) (all_1 (e_of rfl) (all_1 (o := .int nu) (e_bin rfl rfl ((mod_e (by omega)).trans (by rw [e1]))) (all_1 rfl (all_1 rfl all_0)))) rfl) (seq_go i2 (seq_rt (e_ret (e_bin rfl rfl (mod_e (by omega)))))))⟩
noncomputable def shr (m nu : Int) : Int := ((F_inverse [.int nu, .int m]).bind O.int?).getD 0
theorem inverse_ok {m nu : Int} (h0 : 1 ≤ m) (hm : m ≤ 1000) (hn : 0 ≤ nu ∧ nu < m) : F_inverse [.int nu, .int m] = some (.int (shr m nu)) ∧ (0 ≤ shr m nu ∧ shr m nu < m) ∧ Cg m (shr m nu * nu) (Nat.gcd m.toNat nu.toNat : Int) := by
  obtain ⟨r, r0, r1, r2, r3⟩ := inverse_ex h0 hm hn
  have : shr m nu = r := by
    unfold shr
    rw [r3]
    rfl
  rw [this]
  exact ⟨r3, ⟨r0, r1⟩, r2⟩
theorem sl1_ints (b : VE) (t : Tau) (s : List Int) (h : b t = some (.val (.ints s))) : vSl b (some (bFz (vC (.int 1)))) none t = some (.ints (s.drop 1)) := by
  unfold vSl
  rw [h, ob]
  show (dSl (O.val (.ints s)) (some 1) none) = _
  show some (O.nd .lst ((cut (s.map D.int) (some 1) none).map O.val)) = _
  rw [cut1, ← List.map_drop, List.map_map]
  rfl
theorem undoing_ok {m : Int} {ws : List Int} (h : Wh m ws) : F_undoing [.val (.wheel m ws)] = some (.mat (und m (shr m (ws.getD 0 0)) ws)) := by
  have h0 : 0 < m := by have := h.lo; omega
  have hm := h.hi
  have h1 := h.len
  have bn : ws.length ≤ big := Nat.le_trans h.most (by decide)
  have hd := head_rng h
  obtain ⟨iv, is, _⟩ := inverse_ok (by omega) hm hd
  generalize shr m (ws.getD 0 0) = sh at iv is
  refine fn_rt rfl (seq_go (t' := [some (.val (.wheel m ws)), some (.int m), some (.val (.ints ws)), none, none, none, none, none, none]) rfl (seq_go (t' := [some (.val (.wheel m ws)), some (.int m), some (.val (.ints ws)), some (.int (ws.length : Int)), some (.int sh), none, none, none, none]) (par_e (all_1 (e_v1 rfl (len_ints ws)) (all_1 (e_call (as_t (a_pl (e_ix rfl rfl (child_ints (j := 0) h.len))) (as_t (a_pl rfl) as_0)) iv) all_0)) rfl) (seq_go (t' := [some (.val (.wheel m ws)), some (.int m), some (.val (.ints ws)), some (.int (ws.length : Int)), some (.int sh), some (.ints (fst' m sh ws)), none, none, none]) (e_asg ?_) (seq_rt (e_ret ?_)))))
  · have lc : vLc (wSeq (bFz (vSl (bVar 2) (some (bFz (vC (.int 1)))) none))) [6] (gN 6) bYes (vBin .Mod (bFz (vBin .Mult (bFz (vNeg (bVar 4))) (bVar 6))) (bVar 1)) [some (.val (.wheel m ws)), some (.int m), some (.val (.ints ws)), some (.int (ws.length : Int)), some (.int sh), none, none, none, none] = some (.ints ((ws.drop 1).map fun w => -sh * w % m)) := by
      rw [vLc_map (xs := ws.drop 1) (φ := D.int) (ψ := fun w => D.int (-sh * w % m))]
      · show _ = some (O.nd .lst (((ws.drop 1).map fun w => -sh * w % m).map O.int))
        rw [List.map_map]
        rfl
      · unfold wSeq
        rw [fz_ints (sl1_ints _ _ ws rfl), ob]
      · rw [List.length_drop]
        exact Nat.le_trans (Nat.sub_le _ _) bn
      · intro w hw
        have hw := h.rng w (List.mem_of_mem_drop hw)
        exact el (o := .int (-sh * w % m)) rfl (e_bin (e_fz (e_bin (e_fz (x := .int (-sh)) rfl) rfl (mul_e (mul_ok (abs_lt (n := 2000) (by omega) (by omega) (by decide)) (abs_small hw (by omega)))))) rfl (mod_e h0))
    refine e_bin (fz_ints lc) (e_fz (e_nd (all_1 (e_bin rfl rfl (mod_e h0)) all_0) (show 1 ≤ big by decide))) (cat_ints (xs := (ws.drop 1).map fun w => -sh * w % m) (ys := [sh % m]) rfl rfl ?_)
    rw [List.length_map, List.length_drop]
    show ws.length - 1 + 1 ≤ 100000
    have : ws.length ≤ 100000 := bn
    omega
  · have fz : fzAll [some (.val (.wheel m ws)), some (.int m), some (.val (.ints ws)), some (.int (ws.length : Int)), some (.int sh), some (.ints (fst' m sh ws)), none, none, none] = [some (.val (.wheel m ws)), some (.int m), some (.val (.ints ws)), some (.int (ws.length : Int)), some (.int sh), some (.val (.ints (fst' m sh ws))), none, none, none] := by
      show [_, _, _, _, _, some (O.val (O.ints (fst' m sh ws)).toD), _, _, _] = _
      rw [toD_ints]
      rfl
    rw [fz]
    have lc : vLc (wRange1 (bFz (vBin .Sub (bVar 3) (bFz (vC (.int 1)))))) [7] (gN 7) bYes (vLc (wRange1 (bVar 3)) [8] (gN 8) bYes (vBin .Mod (bFz (v1 dInt (bFz (vCmp .Eq (bVar 8) (bVar 7))))) (bVar 1))) [some (.val (.wheel m ws)), some (.int m), some (.val (.ints ws)), some (.int (ws.length : Int)), some (.int sh), some (.val (.ints (fst' m sh ws))), none, none, none] = some (.mat ((List.range (ws.length - 1)).map fun (row : Nat) => (List.range ws.length).map fun (at' : Nat) => (if at' = row then (1 : Int) else 0) % m)) := by
      rw [vLc_map (xs := List.range (ws.length - 1)) (φ := fun (i : Nat) => D.int (i : Int)) (ψ := fun (row : Nat) => D.ints ((List.range ws.length).map fun (at' : Nat) => (if at' = row then (1 : Int) else 0) % m)) (wr1 (n := ws.length - 1) ?_ (by omega)) (by rw [List.length_range]; omega)]
      · show _ = some (O.nd .lst (((List.range (ws.length - 1)).map fun (row : Nat) => (List.range ws.length).map fun (at' : Nat) => (if at' = row then (1 : Int) else 0) % m).map fun r => .val (D.ints r)))
        rw [List.map_map]
        rfl
      · intro row hrow
        refine el (o := .nd .lst ((List.range ws.length).map fun (at' : Nat) => .val (D.int ((if at' = row then (1 : Int) else 0) % m)))) rfl (vLc_map (xs := List.range ws.length) (φ := fun (i : Nat) => D.int (i : Int)) (ψ := fun (at' : Nat) => D.int ((if at' = row then (1 : Int) else 0) % m)) (wr1 (n := ws.length) rfl bn) (by rw [List.length_range]; exact bn) fun at' hat => ?_) |>.trans ?_
        · refine el (o := .int ((if at' = row then (1 : Int) else 0) % m)) rfl (e_bin (e_fz (e_v1 (o := .int (if at' = row then (1 : Int) else 0)) (e_fz (e_cmp (k := decide (at' = row)) rfl rfl ?_)) ?_)) rfl (mod_e h0))
          · show dEq (D.int (at' : Int)) (D.int (row : Int)) = _
            rw [dEq_int]
            congr 1
            exact eq_nat at' row
          · show dInt (.bl (decide (at' = row))) = _
            rw [dInt_bl]
            simp only [decide_eq_true_eq]
        · show some (D.nd .lst (O.toDs ((List.range ws.length).map fun (at' : Nat) => .val (D.int ((if at' = row then (1 : Int) else 0) % m))))) = _
          rw [toDs_map']
          show _ = some (D.nd .lst (((List.range ws.length).map fun (at' : Nat) => (if at' = row then (1 : Int) else 0) % m).map D.int))
          rw [List.map_map]
          rfl
      · refine (e_fz (e_bin rfl rfl rfl)).trans ?_
        show some (O.int ((ws.length : Int) - 1)) = _
        rw [show ((ws.length - 1 : Nat) : Int) = (ws.length : Int) - 1 by omega]
    have z := e_fz lc
    rw [toD_mat] at z
    refine (e_bin (e_fz (e_nd (all_1 (e_of rfl) all_0) (show 1 ≤ big by decide))) z (cat_e (xs := [D.ints (fst' m sh ws)]) (ys := ((List.range (ws.length - 1)).map fun (row : Nat) => (List.range ws.length).map fun (at' : Nat) => (if at' = row then (1 : Int) else 0) % m).map D.ints) rfl rfl ?_)).trans ?_
    · rw [List.length_map, List.length_map, List.length_range]
      show 1 + (ws.length - 1) ≤ 100000
      have : ws.length ≤ 100000 := bn
      omega
    · unfold und
      show some (O.nd .lst (([fst' m sh ws].map D.ints ++ List.map D.ints _).map O.val)) = _
      rw [← List.map_append, List.map_map]
      rfl
/-- the state k steps back -/
noncomputable def bk (m : Int) (ws : List Int) : List Int → List Int := bck m (shr m (ws.getD 0 0)) ws
theorem state_of_bk {m : Int} {ws b : List Int} {k B : Nat} (h : Wh m ws) (hb : Ok m ws.length b) (h1 : 1 ≤ k) (hk : k < 2 ^ B) (hB : B ≤ 50000) : F_state_of [.val (.wheel m ws), .val (.ints b), .int (-(k : Int))] = some (.ints (itr (bk m ws) k b)) := by
  have h0 : 0 < m := by have := h.lo; omega
  have hn : 0 < ws.length := h.len
  have sq := sq_und (sh := shr m (ws.getD 0 0)) h0 hn
  obtain ⟨L, l1, l2, l3, l4⟩ := ladder_of_ok h0 h.hi h.most sq hk hB
  obtain ⟨o', q1, q2, q3⟩ := led_on_ok (o := .ints b) (k := k) h0 h.hi h.most (Ms := (List.range L).map (lad m (und m (shr m (ws.getD 0 0)) ws))) (fun M hM => by
    obtain ⟨i, _, rfl⟩ := List.mem_map.mp hM
    exact sq_lad h0 sq i) hb (toD_ints b)
  have e : ledOn m ((List.range L).map (lad m (und m (shr m (ws.getD 0 0)) ws))) b k = itr (bk m ws) k b := by
    have := ledOn_lad h0 sq (f := bk m ws) (fun s hs => act_und h0 hn hs) (fun s hs => ok_bck h0 hn hs) L 0 b k hb l2
    rw [← List.range_eq_range'] at this
    rw [this]
    congr 1
    omega
  have un := undoing_ok h
  generalize und m (shr m (ws.getD 0 0)) ws = T at l4 q1 q3 e un
  refine fn_rt rfl (seq_go (t' := [some (.val (.wheel m ws)), some (.val (.ints b)), some (.int (-(k : Int))), some (.mat T), some (.int (k : Int))]) (par_e (all_1 (e_if_t (e_T ((e_cmp rfl rfl (lt_e _ _)).trans ?_)) (e_call (as_t (a_pl rfl) as_0) ?_)) (all_1 (e_v1 (o := .int (k : Int)) rfl ?_) all_0)) rfl) (seq_rt (e_ret ?_)))
  · rw [decide_eq_true (by omega)]
  · exact un
  · show some (O.int (if -(k : Int) < 0 then -(-(k : Int)) else -(k : Int))) = _
    rw [if_pos (by omega), Int.neg_neg]
  · have tm : fzAll [some (O.val (.wheel m ws)), some (.val (.ints b)), some (.int (-(k : Int))), some (.mat T), some (.int (k : Int))] = [some (O.val (.wheel m ws)), some (.val (.ints b)), some (.int (-(k : Int))), some (.val (.mat T)), some (.int (k : Int))] := by
      show [_, _, _, some (O.val (O.mat T).toD), _] = _
      rw [toD_mat]
      rfl
    rw [tm]
    refine e_call (os := [.int m, .val (.mats ((List.range L).map (lad m T))), .ints b, .int (k : Int)]) (as_t (a_pl (e_ix rfl rfl (wheel_m m ws))) (as_t ?_ (as_t (a_mv (e_v1 rfl (list_ints b))) (as_t (a_pl rfl) as_0)))) (by rw [q1, q3 rfl, e])
    have z := a_np (e_call (as_t (a_pl (e_ix rfl rfl (wheel_m m ws))) (as_t (a_pl rfl) (as_t (a_pl rfl) as_0))) l4 (t := [some (O.val (.wheel m ws)), some (.val (.ints b)), some (.int (-(k : Int))), some (.val (.mat T)), some (.int (k : Int))]) (F := F_ladder_of) (as := [(aPl (bIx (bVar 0) (bFz (vC (.int 0))))), (aPl (bVar 3)), (aPl (bVar 4))]))
    rw [toD_mats] at z
    exact z
theorem check_place_bk {m : Int} {ws : List Int} (h : Wh m ws) (g : Gb m ws) (p : Int) : F_check_place [.val (.wheel m ws), .int p] = some .non := by
  by_cases hp : p < 0
  · refine fn_nx rfl (seq_go (if_f (bNot_t (e_Tz (e_call (as_t (a_pl rfl) as_0) (is_whole_int p)))) rfl) (seq_go (if_f ?_ rfl) rfl))
    unfold bAnd
    rw [e_T ((e_cmp (k := true) rfl rfl ((lt_e _ _).trans (by rw [decide_eq_true hp])))), ob, if_pos rfl]
    exact bNot_t (e_Tz (e_call (as_t (a_pl rfl) as_0) ((goes_back_ok h).trans (by rw [decide_eq_true g]))))
  · exact check_place_ok (by omega)
theorem state_at_bk {m : Int} {ws b : List Int} {k B : Nat} (h : Wh m ws) (g : Gb m ws) (hb : Ok m ws.length b) (hk : k < 2 ^ B) (hB : B ≤ 50000) : F_state_at [.val (.wheel m ws), .val (.ints b), .int (-(k : Int))] = some (.ints (itr (bk m ws) k b)) := by
  by_cases h1 : 1 ≤ k
  · exact fn_rt rfl (seq_go (e_drop (e_call (as_t (a_pl rfl) as_0) (check_wheel_ok h))) (seq_go (e_drop (e_call (as_t (a_pl rfl) (as_t (a_pl rfl) as_0)) (check_beginning_ok h hb))) (seq_go (e_drop (e_call (as_t (a_pl rfl) (as_t (a_pl rfl) as_0)) (check_place_bk h g _))) (seq_rt (e_ret (e_call (as_t (a_pl rfl) (as_t (a_pl rfl) (as_t (a_pl rfl) as_0))) (state_of_bk h hb h1 hk hB)))))))
  · have : k = 0 := by omega
    subst this
    exact state_at_ok h hb hk hB
theorem number_at_bk {m : Int} {ws b : List Int} {k B : Nat} (h : Wh m ws) (g : Gb m ws) (hb : Ok m ws.length b) (hk : k < 2 ^ B) (hB : B ≤ 50000) : F_number_at [.val (.wheel m ws), .val (.ints b), .int (-(k : Int))] = some (.int ((itr (bk m ws) k b).getD 0 0)) := by
  have h0 : 0 < m := by have := h.lo; omega
  have ok : ∀ k, Ok m ws.length (itr (bk m ws) k b) := by
    intro k
    induction k with
    | zero => exact hb
    | succ k ih => rw [itr_succ]; exact ok_bck h0 h.len ih
  refine fn_rt rfl (seq_rt (e_ret (e_of (e_ix (j := 0) (fz_ints (e_call (as_t (a_pl rfl) (as_t (a_pl rfl) (as_t (a_pl rfl) as_0))) (state_at_bk h g hb hk hB))) rfl ?_))))
  exact child_ints (j := 0) (by rw [(ok k).len]; exact h.len)
theorem ok_bk {m : Int} {ws b : List Int} (h : Wh m ws) (hb : Ok m ws.length b) : ∀ k, Ok m ws.length (itr (bk m ws) k b)
  | 0 => hb
  | k + 1 => by
    rw [itr_succ]
    exact ok_bck (by have := h.lo; omega) h.len (ok_bk h hb k)
theorem stp_bk {m : Int} {ws s : List Int} (h : Wh m ws) (g : Gb m ws) (hs : Ok m ws.length s) : stp m ws (bk m ws s) = s ∧ bk m ws (stp m ws s) = s := by
  have h0 : 0 < m := by have := h.lo; omega
  obtain ⟨_, _, c⟩ := inverse_ok (by omega) h.hi (head_rng h)
  rw [show Nat.gcd m.toNat (ws.getD 0 0).toNat = 1 from g] at c
  exact ⟨stp_bck h0 h.len c hs, bck_stp h0 h.len c hs⟩
theorem law_common_nat (x y : Nat) : F__law_common [.int (x : Int), .int (y : Int)] = some (.int (Nat.gcd x y : Int)) := common_ok rfl rfl rfl x y
theorem going_go {m : Int} {ws : List Int} (hm : 1 ≤ m) {a0 a1 a3 : Option O} : ∀ (k f : Nat), Nat.gcd m.toNat (f + k) = 1 → ∃ f' : Nat, Nat.gcd m.toNat f' = 1 ∧ sWhile W__law_going_1 W__law_going_2 [a0, a1, some (.val (.wheel m ws)), a3, some (.int (f : Int))] = some (.nx [a0, a1, some (.val (.wheel m ws)), a3, some (.int (f' : Int))]) := by
  have cnd : ∀ f : Nat, vCmp .Gt (bFz (vCall F__law_common [(aPl (bIx (bVar 2) (bFz (vC (.int 0))))), (aPl (bVar 4))])) (bFz (vC (.int 1))) [a0, a1, some (.val (.wheel m ws)), a3, some (.int (f : Int))] = some (.bl (decide (1 < (Nat.gcd m.toNat f : Int)))) := fun f => by
    have c := law_common_nat m.toNat f
    rw [Int.toNat_of_nonneg (by omega)] at c
    exact e_cmp (e_fz (e_call (as_t (a_pl (e_ix rfl rfl (wheel_m m ws))) (as_t (a_pl rfl) as_0)) c)) rfl (gt_e _ _)
  have pos : ∀ f, 0 < Nat.gcd m.toNat f := fun f => Nat.gcd_pos_of_pos_left _ (by omega)
  intro k
  induction k with
  | zero =>
    intro f h
    rw [Nat.add_zero] at h
    exact ⟨f, h, while_end (e_T ((cnd f).trans (by rw [h]; rfl)))⟩
  | succ k ih =>
    intro f h
    by_cases h1 : Nat.gcd m.toNat f = 1
    · exact ⟨f, h1, while_end (e_T ((cnd f).trans (by rw [h1]; rfl)))⟩
    · obtain ⟨f', g1, g2⟩ := ih (f + 1) (by rw [show f + 1 + k = f + (k + 1) by omega]; exact h)
      have := pos f
      refine ⟨f', g1, while_turn (e_T ((cnd f).trans (by rw [decide_eq_true (by omega)]))) (seq_go (t' := [a0, a1, some (.val (.wheel m ws)), a3, some (.int ((f + 1 : Nat) : Int))]) (e_asg (e_bin rfl rfl rfl)) rfl) g2⟩
theorem law_going_ok (ns : List Int) (by' : Nat) : ∃ m ws b, Wh m ws ∧ Gb m ws ∧ Ok m ws.length b ∧ F__law_going [.val (.ints ns), .int (by' : Int)] = some (.nd .tup [.nd .tup [.int m, .ints ws], .val (.ints b)]) := by
  obtain ⟨m, ws, b, hW, hb, _, hF⟩ := law_wheel_ok ns by' 4 (by decide) (by decide)
  have h0 : 0 < m := by have := hW.lo; omega
  have hd := head_rng hW
  have cd : (((ws.getD 0 0).toNat : Nat) : Int) = ws.getD 0 0 := Int.toNat_of_nonneg hd.1
  obtain ⟨k, hk⟩ := gcd_free m.toNat (ws.getD 0 0).toNat (by omega)
  obtain ⟨f', g1, g2⟩ := going_go (ws := ws) hW.lo (a0 := some (.val (.ints ns))) (a1 := some (.int (by' : Int))) (a3 := some (.val (.ints b))) k (ws.getD 0 0).toNat hk
  rw [cd] at g2
  have f0 : 0 ≤ (f' : Int) % m := Int.emod_nonneg _ (by omega)
  have f1 : (f' : Int) % m < m := Int.emod_lt_of_pos _ h0
  have ll : ([(f' : Int) % m] ++ ws.drop 1).length = ws.length := by
    rw [List.length_append, List.length_drop]
    show 1 + (ws.length - 1) = _
    have := hW.len
    omega
  refine ⟨m, [(f' : Int) % m] ++ ws.drop 1, b, ⟨hW.lo, hW.hi, fun x hx => ?_, by rw [ll]; exact hW.len, by rw [ll]; exact hW.most⟩, ?_, by rw [ll]; exact hb, ?_⟩
  · rcases List.mem_cons.mp hx with rfl | hx
    · exact ⟨f0, f1⟩
    · exact hW.rng x (List.mem_of_mem_drop hx)
  · show Nat.gcd m.toNat ((f' : Int) % m).toNat = 1
    have e : ((f' : Int) % m).toNat = f' % m.toNat := by
      have : ((f' % m.toNat : Nat) : Int) = (f' : Int) % m := by
        rw [Int.natCast_emod, Int.toNat_of_nonneg (by omega)]
      omega
    rw [e, Nat.gcd_comm, ← Nat.gcd_rec]
    exact g1
  · refine fn_rt rfl (seq_go (t' := [some (.val (.ints ns)), some (.int (by' : Int)), some (.val (.wheel m ws)), some (.val (.ints b)), none]) (e_unp (e_fz (e_call (as_t (a_pl rfl) (as_t (a_pl rfl) (as_t (a_np rfl) as_0))) hF)) rfl) (seq_go (t' := [some (.val (.ints ns)), some (.int (by' : Int)), some (.val (.wheel m ws)), some (.val (.ints b)), some (.int (ws.getD 0 0))]) (e_asg (e_of (e_ix (e_ix rfl rfl (wheel_1 m ws)) rfl (child_ints (j := 0) hW.len)))) (seq_go g2 (seq_rt (e_ret (e_nd (all_1 (e_nd (all_1 (e_of (e_ix rfl rfl (wheel_m m ws))) (all_1 (e_bin (e_fz (e_nd (all_1 (e_bin rfl (e_ix rfl rfl (wheel_m m ws)) (mod_e h0)) all_0) (show 1 ≤ big by decide))) (fz_ints (sl1_ints _ _ ws (e_ix rfl rfl (wheel_1 m ws)))) (cat_ints (xs := [(f' : Int) % m]) rfl rfl ?_)) all_0)) (show 2 ≤ big by decide)) (all_1 (e_of rfl) all_0)) (show 2 ≤ big by decide)))))))
    rw [List.length_drop]
    show 1 + (ws.length - 1) ≤ 100000
    have := hW.most
    omega
theorem law_walk_ok {m : Int} {ws s : List Int} (h : Wh m ws) (hs : Ok m ws.length s) (k : Nat) (hk : k ≤ big) : ∃ o : O, F__law_walk [.val (.wheel m ws), .val (.ints s), .int (k : Int)] = some o ∧ o.toD = .ints (itr (stp m ws) k s) := by
  have h0 : 0 < m := by have := h.lo; omega
  obtain ⟨t', hf, o, x3, ho, rfl⟩ := for_go (g := gN 3) (b := W__law_walk_1) (ds := (List.range k).map fun (j : Nat) => D.int (j : Int)) (t := [some (.val (.wheel m ws)), some (.val (.ints s)), some (.int (k : Int)), none])
    (fun i t => ∃ o x3, o.toD = D.ints (itr (stp m ws) i s) ∧ t = [some (.val (.wheel m ws)), some o, some (.int (k : Int)), x3]) ⟨_, _, rfl, rfl⟩ (fun i d t hd ht => by
      obtain ⟨o, x3, ho, rfl⟩ := ht
      have ok := ok_itr (ws := ws) h0 h.len hs i
      refine ⟨_, seq_go (e_asg (e_callF (k := true && (o.isVal && true)) (os := [.val (.wheel m ws), .val (.ints (itr (stp m ws) i s))]) (as_1 (a_pl rfl) (as_1 ?_ as_0)) (law_step_ok h ok) rfl (allFlat_ints _))) rfl, _, _, ?_, rfl⟩
      · unfold aPl
        rw [← ho]
        rfl
      · rw [toD_ints, itr_succ])
  rw [List.length_map, List.length_range] at ho
  refine ⟨o, fn_rt rfl (seq_go (e_for (wr1 rfl hk) hf) (seq_rt rfl)), ho⟩
end Den

/-! S1: rules by which what rows are worth is reckoned, construct by construct. -/
namespace Den
open PySem L2 Mt
section
variable {a b c : VE} {t t' : Tau} {x y o : O} {d : D}
theorem r_var {i : Nat} (h : t[i]? = some (some o)) : bVar i t = some o := by
  unfold bVar
  rw [h]
  rfl
theorem r_c {v : V} : vC v t = some (.val (.at v)) := rfl
theorem r_of (h : a t = some (.val d)) : vOf a t = some (.val d) := e_of h
theorem r_fz (h : a t = some o) (hd : o.toD = d) : bFz a t = some (.val d) := by rw [← hd]; exact e_fz h
theorem r_neg {i : Int} (h : a t = some (.int i)) : vNeg a t = some (.int (-i)) := e_v1 h rfl
theorem r_not {k : Bool} (h : a t = some (.bl k)) : vNot a t = some (.bl (!k)) := by
  unfold vNot
  rw [h]
  rfl
theorem r_and {k k' : Bool} (h : a t = some (.bl k)) (h2 : k = true → b t = some (.bl k')) : vAnd a b t = some (.bl (k && k')) := by
  unfold vAnd
  rw [h, ob]
  cases k with
  | true => exact h2 rfl
  | false => rfl
theorem r_or {k k' : Bool} (h : a t = some (.bl k)) (h2 : k = false → b t = some (.bl k')) : vOr a b t = some (.bl (k || k')) := by
  unfold vOr
  rw [h, ob]
  cases k with
  | true => rfl
  | false => exact h2 rfl
theorem r_chain {op op' : CmpOp} {k k' : Bool} {z : O} (h1 : a t = some x) (h2 : b t = some y) (h3 : dCmp op x y = some k) (h4 : k = true → c t = some z) (h5 : k = true → dCmp op' y z = some k') : vChain op op' a b c t = some (.bl (k && k')) := by
  unfold vChain
  rw [h1, ob, h2, ob, h3, ob]
  cases k with
  | true =>
    rw [if_pos rfl, h4 rfl, ob, h5 rfl]
    rfl
  | false => rfl
theorem r_if {k : Bool} {k1 : BE} (h : k1 t = some k) (h1 : k = true → a t = some x) (h2 : k = false → b t = some y) : vIf k1 a b t = some (if k then x else y) := by
  unfold vIf
  rw [h, ob]
  cases k with
  | true => exact h1 rfl
  | false => exact h2 rfl
theorem r_T {k : Bool} (h : a t = some (.bl k)) : bT a t = some k := e_T h
theorem r_bnot {k1 : BE} {k : Bool} (h : k1 t = some k) : bNot k1 t = some (!k) := bNot_e h
theorem r_band {k1 k2 : BE} {k k' : Bool} (h : k1 t = some k) (h2 : k = true → k2 t = some k') : bAnd k1 k2 t = some (k && k') := by
  unfold bAnd
  rw [h, ob]
  cases k with
  | true => exact h2 rfl
  | false => rfl
theorem r_bor {k1 k2 : BE} {k k' : Bool} (h : k1 t = some k) (h2 : k = false → k2 t = some k') : bOr k1 k2 t = some (k || k') := by
  unfold bOr
  rw [h, ob]
  cases k with
  | true => rfl
  | false => exact h2 rfl
theorem r_band0 {k1 k2 : BE} (h : k1 t = some false) : bAnd k1 k2 t = some false := by
  unfold bAnd
  rw [h]
  rfl
theorem r_bor1 {k1 k2 : BE} (h : k1 t = some true) : bOr k1 k2 t = some true := by
  unfold bOr
  rw [h]
  rfl
theorem r_call {F : Fn} {as : List AE} {os : List O} {r : O} {k : Bool} (h1 : aAll as t = some (os, k)) (h2 : F os = some r) (h3 : k = true ∨ (os.all O.isVal = true ∧ r.allFlat = true)) : vCall F as t = some r := by
  unfold vCall
  rw [h1, ob]
  show ((F os).bind _) = _
  rw [h2, ob, if_pos h3]
theorem r_pl {k : Bool} (h : a t = some o) (hd : o.toD = d) (hk : o.isVal = k) : aPl a t = some (.val d, k) := by
  unfold aPl
  rw [h, om, hd, hk]
theorem r_np (h : a t = some o) (hd : o.toD = d) : aNp a t = some (.val d, true) := by
  unfold aNp
  rw [h, om, hd]
theorem r_mv (h : a t = some o) : aMv a t = some (o, true) := by
  unfold aMv
  rw [h]
  rfl
theorem r_fld {cs : List Str} {f : Str} (h : a t = some x) (h2 : O.fieldC cs f x = some o) : bFldC cs f a t = some o := e_v1 h h2
theorem r_sl {lo hi : Option VE} {l u : Option Int} (h : a t = some x) (h1 : opI lo t = some l) (h2 : opI hi t = some u) (h3 : dSl x l u = some o) : vSl a lo hi t = some o := by
  unfold vSl
  rw [h, ob, h1, ob, h2, ob]
  exact h3
theorem r_opn : opI none t = some none := rfl
theorem r_ops {i : Int} (h : a t = some (.int i)) : opI (some a) t = some (some i) := by
  show (a t).bind _ = _
  rw [h]
  rfl
/-! #### statements -/
variable {s u : SE} {r : Option Out}
theorem s_fz {is : List Nat} (ht : fzAt t is = t') (h : s t' = r) : sFz is s t = r := by
  unfold sFz
  rw [ht]
  exact h
theorem s_asg {i : Nat} (h : a t = some o) (ht : t.set i (some o) = t') : sAsg i a t = some (.nx t') := by
  rw [← ht]
  exact e_asg h
theorem s_ret (ht : fzAll t = t') (h : a t' = some o) : sRet a t = some (.rt o) := e_ret (by rw [ht]; exact h)
theorem s_retN {i : Nat} (h : t[i]? = some (some o)) : sRetN i t = some (.rt o) := by
  unfold sRetN
  rw [r_var h]
  rfl
theorem s_if {k1 : BE} {k : Bool} (h : k1 t = some k) (h1 : k = true → s t = r) (h2 : k = false → u t = r) : sIf k1 s u t = r := by
  unfold sIf
  rw [h, ob]
  cases k with
  | true => exact h1 rfl
  | false => exact h2 rfl
theorem s_ift {k1 : BE} {k : Bool} (h : k1 t = some k) (hk : k = true) (h1 : s t = r) : sIf k1 s u t = r := if_t (by rw [h, hk]) h1
theorem s_iff {k1 : BE} {k : Bool} (h : k1 t = some k) (hk : k = false) (h1 : u t = r) : sIf k1 s u t = r := if_f (by rw [h, hk]) h1
theorem s_drop (h : a t = some o) : sDrop a t = some (.nx t) := e_drop h
theorem s_par {is : List Nat} {es : List VE} {os : List O} (h : vAll es t = some os) (hs : setAll is os t = some t') : sPar is es t = some (.nx t') := par_e h hs
theorem s_unp {is : List Nat} (h : a t = some (.val d)) (hg : gT is d t = some t') : sUnp is a t = some (.nx t') := e_unp h hg
theorem s_app {i : Nat} {os : List O} (he : a t = some o) (hd : o.toD = d) (hi : t[i]? = some (some (.nd .lst os))) (hl : os.length < big) (ht : t.set i (some (.nd .lst (os ++ [.val d]))) = t') : sApp i [] a t = some (.nx t') := by
  rw [← ht, ← hd]
  exact app_e he (r_var hi) hl
theorem r_cmp {op : CmpOp} {k : Bool} (h1 : a t = some x) (h2 : b t = some y) (h : dCmp op x y = some k) : vCmp op a b t = some (.bl k) := e_cmp h1 h2 h
end
/-! #### slots -/
theorem l_set0 {α : Type} {x y : α} {l : List α} : (x :: l).set 0 y = y :: l := rfl
theorem l_setS {α : Type} {x y : α} {l l' : List α} {i : Nat} (h : l.set i y = l') : (x :: l).set (i + 1) y = x :: l' := by rw [List.set_cons_succ, h]
theorem l_at0 {α : Type} {x : α} {l : List α} : (x :: l)[0]? = some x := rfl
theorem l_atS {α : Type} {x : α} {y : Option α} {l : List α} {i : Nat} (h : l[i]? = y) : (x :: l)[i + 1]? = y := by rw [List.getElem?_cons_succ, h]
theorem fz_0 {t : Tau} : fzAt t [] = t := rfl
theorem fz_1 {t t1 t' : Tau} {i : Nat} {is : List Nat} {o : O} {d : D} (h : t[i]? = some (some o)) (hd : o.toD = d) (hs : t.set i (some (.val d)) = t1) (hr : fzAt t1 is = t') : fzAt t (i :: is) = t' := by
  unfold fzAt
  rw [h]
  show fzAt (t.set i (some o.fz)) is = t'
  unfold O.fz
  rw [hd, hs, hr]
theorem fz_n {t t' : Tau} {i : Nat} {is : List Nat} (h : t[i]? = some none) (hr : fzAt t is = t') : fzAt t (i :: is) = t' := by
  unfold fzAt
  rw [h]
  exact hr
theorem fa_0 : fzAll [] = [] := rfl
theorem fa_n {l l' : Tau} (h : fzAll l = l') : fzAll (none :: l) = none :: l' := by
  show none :: fzAll l = _
  rw [h]
theorem fa_s {l l' : Tau} {o : O} {d : D} (hd : o.toD = d) (h : fzAll l = l') : fzAll (some o :: l) = some (.val d) :: l' := by
  show some (O.val o.toD) :: fzAll l = _
  rw [h, hd]
theorem fa_x {l l' : Tau} {x : Option O} (h : fzAll l = l') : fzAll (x :: l) = x.map O.fz :: l' := by
  show x.map O.fz :: fzAll l = _
  rw [h]
theorem gt_0 {t : Tau} : gSet [] [] t = some t := rfl
theorem gt_1 {t t1 t' : Tau} {i : Nat} {is : List Nat} {d : D} {ds : List D} (hs : t.set i (some (.val d)) = t1) (h : gSet is ds t1 = some t') : gSet (i :: is) (d :: ds) t = some t' := by
  show gSet is ds (t.set i (some (.val d))) = _
  rw [hs, h]
theorem gt_t {t t' : Tau} {is : List Nat} {ds : List D} (h : gSet is ds t = some t') : gT is (.nd .tup ds) t = some t' := h
theorem sa_0 {t : Tau} : setAll [] [] t = some t := rfl
theorem sa_1 {t t1 t' : Tau} {i : Nat} {is : List Nat} {o : O} {os : List O} (hs : t.set i (some o) = t1) (h : setAll is os t1 = some t') : setAll (i :: is) (o :: os) t = some t' := by
  show setAll is os (t.set i (some o)) = _
  rw [hs, h]
theorem s_ifk {t : Tau} {k1 : BE} {k : Bool} {s u : SE} {r : Option Out} (h : k1 t = some k) (hk : (k = true ∧ s t = r) ∨ (k = false ∧ u t = r)) : sIf k1 s u t = r := by
  rcases hk with ⟨hk, h1⟩ | ⟨hk, h1⟩
  · exact s_ift h hk h1
  · exact s_iff h hk h1
theorem seq_nx {t : Tau} {u : SE} {r : Option Out} (h : u t = r) : sSeq sNext u t = r := h
theorem seq_assoc {t : Tau} {a b c : SE} {r : Option Out} (h : sSeq a (sSeq b c) t = r) : sSeq (sSeq a b) c t = r := by
  rw [← h]
  unfold sSeq
  cases a t with
  | none => rfl
  | some o => cases o <;> rfl
theorem seq_if {t : Tau} {k1 : BE} {k : Bool} {s u w : SE} {r : Option Out} (h : k1 t = some k) (hk : (k = true ∧ sSeq s w t = r) ∨ (k = false ∧ sSeq u w t = r)) : sSeq (sIf k1 s u) w t = r := by
  unfold sSeq
  rcases hk with ⟨hk, h1⟩ | ⟨hk, h1⟩
  · rw [s_ift h hk rfl]
    exact h1
  · rw [s_iff h hk rfl]
    exact h1
theorem seq_ifc {t : Tau} {k1 : BE} {k : Bool} {s u w : SE} {r : Option Out} (h : k1 t = some k) (h1 : k = true → sSeq s w t = r) (h2 : k = false → sSeq u w t = r) : sSeq (sIf k1 s u) w t = r := by
  cases k with
  | true => exact seq_if h (.inl ⟨rfl, h1 rfl⟩)
  | false => exact seq_if h (.inr ⟨rfl, h2 rfl⟩)
theorem seq_fz {t t' : Tau} {s u : SE} {is : List Nat} {r : Option Out} (ht : fzAt t is = t') (h : sSeq s u t' = r) : sSeq (sFz is s) u t = r := by
  unfold sSeq sFz
  rw [ht]
  exact h
theorem fn_go {np n : Nat} {b : SE} {os : List O} {t : Tau} {o : O} (hl : os.length = np) (ht : os.map some ++ List.replicate (n - np) none = t) (h : b t = some (.rt o)) : fnOf np n b os = some o := fn_rt hl (by rw [ht]; exact h)
theorem fn_gn {np n : Nat} {b : SE} {os : List O} {t t' : Tau} (hl : os.length = np) (ht : os.map some ++ List.replicate (n - np) none = t) (h : b t = some (.nx t')) : fnOf np n b os = some .non := fn_nx (t := t') hl (by rw [ht]; exact h)
theorem f_go {w : WE} {g : GE} {b : SE} {t : Tau} {ds : List D} {r : Option Out} (h : w t = some ds) (h2 : forIn' g b ds t = r) : sFor w g b t = r := e_for h h2
theorem toD_val (d : D) : (O.val d).toD = d := rfl
theorem toD_nd (k : Nk) (os : List O) : (O.nd k os).toD = .nd k (O.toDs os) := by rw [O.toD]
theorem toDs_0 : O.toDs [] = [] := rfl
theorem toDs_1 {x : O} {xs : List O} {d : D} {ds : List D} (h : x.toD = d) (hs : O.toDs xs = ds) : O.toDs (x :: xs) = d :: ds := by rw [O.toDs, h, hs]
theorem toD_n {k : Nk} {os : List O} {ds : List D} (h : O.toDs os = ds) : (O.nd k os).toD = .nd k ds := by rw [O.toD, h]
theorem r_meth {tb : List (Str × Nat × Fn)} {m c : Str} {ns : List Str} {n : Nat} {F : Fn} {a : VE} {as : List AE} {t : Tau} {x o : O} (h : a t = some x) (h1 : x.fz.insOf = some (c, ns)) (h2 : ns.contains m = false) (h3 : tb.lookup c = some (n, F)) (h4 : n = as.length + 1) (h5 : vCall F (aPl a :: as) t = some o) : vMeth tb m a as t = some o := by
  unfold vMeth
  rw [h, ob, h1, ob]
  show (if ns.contains m = true then none else _) = _
  rw [h2, if_neg (by decide), show (List.lookup (c, ns).1 tb) = some (n, F) from h3, ob]
  show (if n = as.length + 1 then _ else none) = _
  rw [if_pos h4]
  exact h5
theorem simple_wheel (m : Int) (ws : List Int) : (D.wheel m ws).simple 60 = true := by
  have e : (D.wheel m ws).simple 60 = ((D.int m).simple 59 && ((D.ints ws).simple 59 && true)) := rfl
  rw [e, simple_ints]
  rfl
theorem dEq_wheel (m m' : Int) (ws ws' : List Int) : dEq (.wheel m ws) (.wheel m' ws') = some (decide (m = m') && decide (ws = ws')) := by
  rw [dEq_of (simple_wheel m ws) (simple_wheel m' ws')]
  show some (PyData.eqv (.tuple [.int m, (D.ints ws).toPy]) (.tuple [.int m', (D.ints ws').toPy])) = _
  rw [toPy_ints, toPy_ints]
  show some (PyData.eqvAll [.int m, .list (ws.map PyData.int)] [.int m', .list (ws'.map PyData.int)]) = _
  rw [PyData.eqvAll, PyData.eqvAll, PyData.eqvAll, eqv_ints]
  rw [Bool.and_true]
  rfl
theorem big4 {n : Nat} (h : n ≤ 4) : n ≤ big := Nat.le_trans h (by decide)
theorem cd_eq {x y : D} {k : Bool} (h : dEq x y = some k) : dCmp .Eq (.val x) (.val y) = some k := h
theorem cd_ne {x y : D} {k : Bool} (h : dEq x y = some k) : dCmp .NotEq (.val x) (.val y) = some (!k) := by
  show (dEq x y).map _ = _
  rw [h]
  rfl
theorem co_eq {x y : O} {dx dy : D} {k : Bool} (hx : x.toD = dx) (hy : y.toD = dy) (h : dEq dx dy = some k) : dCmp .Eq x y = some k := by
  show dEq x.toD y.toD = _
  rw [hx, hy, h]
theorem co_ne {x y : O} {dx dy : D} {k : Bool} (hx : x.toD = dx) (hy : y.toD = dy) (h : dEq dx dy = some k) : dCmp .NotEq x y = some (!k) := by
  show (dEq x.toD y.toD).map _ = _
  rw [hx, hy, h]
  rfl
theorem is_bl (a b : Bool) : dCmp .Is (.bl a) (.bl b) = some (decide (a = b)) := rfl
theorem nis_bl (a b : Bool) : dCmp .IsNot (.bl a) (.bl b) = some (!decide (a = b)) := rfl
end Den

/-! C0: sums of shifts of a row; what they make of it by a prime (plain). -/
namespace Mt
/-- a row is all multiples -/
def Zr (p : Nat) (s : Nat → Int) : Prop := ∀ k, (p : Int) ∣ s k
def op : List Int → (Nat → Int) → Nat → Int
  | [], _, _ => 0
  | a :: as, s, k => a * s k + op as (fun i => s (i + 1)) k
/-- with a last share of one -/
def mon (c : List Int) (s : Nat → Int) (k : Nat) : Int := op c s k + s (k + c.length)
theorem op_shift (c : List Int) (s : Nat → Int) (j k : Nat) : op c (fun i => s (i + j)) k = op c s (k + j) := by
  induction c generalizing s with
  | nil => rfl
  | cons a as ih =>
    show a * s (k + j) + op as (fun i => s (i + 1 + j)) k = a * s (k + j) + op as (fun i => s (i + 1)) (k + j)
    rw [← ih (fun i => s (i + 1))]
    congr 2
    funext i
    congr 1
    omega
theorem op_congr {c : List Int} {s u : Nat → Int} (h : ∀ k, s k = u k) (k : Nat) : op c s k = op c u k := by
  have : s = u := funext h
  rw [this]
theorem op_add (c : List Int) (s u : Nat → Int) (k : Nat) : op c (fun i => s i + u i) k = op c s k + op c u k := by
  induction c generalizing s u with
  | nil => rfl
  | cons a as ih =>
    show a * (s k + u k) + op as (fun i => s (i + 1) + u (i + 1)) k = _
    rw [ih (fun i => s (i + 1)) (fun i => u (i + 1)), Int.mul_add]
    show _ = a * s k + op as (fun i => s (i + 1)) k + (a * u k + op as (fun i => u (i + 1)) k)
    omega
theorem op_smul (c : List Int) (x : Int) (s : Nat → Int) (k : Nat) : op c (fun i => x * s i) k = x * op c s k := by
  induction c generalizing s with
  | nil => show (0 : Int) = x * 0; omega
  | cons a as ih =>
    show a * (x * s k) + op as (fun i => x * s (i + 1)) k = x * (a * s k + op as (fun i => s (i + 1)) k)
    rw [ih (fun i => s (i + 1)), Int.mul_add, Int.mul_left_comm]
theorem op_sub (c : List Int) (s u : Nat → Int) (k : Nat) : op c (fun i => s i - u i) k = op c s k - op c u k := by
  have e : (fun i => s i - u i) = fun i => s i + (-1) * u i := by funext i; omega
  rw [e, op_add, op_smul]
  omega
theorem op_dvd {c : List Int} {d : Int} {s : Nat → Int} (h : ∀ k, d ∣ s k) (k : Nat) : d ∣ op c s k := by
  induction c generalizing s with
  | nil => exact ⟨0, by show (0 : Int) = _; omega⟩
  | cons a as ih => exact Int.dvd_add (Int.dvd_mul_of_dvd_right (h k)) (ih fun k => h (k + 1))
theorem op_comm (a b : List Int) (s : Nat → Int) (k : Nat) : op a (op b s) k = op b (op a s) k := by
  induction a generalizing s k with
  | nil =>
    show (0 : Int) = op b (fun _ => 0) k
    have e : (fun (_ : Nat) => (0 : Int)) = fun _ => 0 * 0 := by funext i; rfl
    have := op_smul b 0 (fun _ => 0) k
    rw [← e] at this
    omega
  | cons x as ih =>
    show x * op b s k + op as (fun i => op b s (i + 1)) k = op b (fun i => x * s i + op as (fun j => s (j + 1)) i) k
    have e : (fun i => op b s (i + 1)) = op b (fun i => s (i + 1)) := by
      funext i
      exact (op_shift b s 1 i).symm
    rw [e, ih (fun i => s (i + 1)), op_add, op_smul]
theorem mon_cons (a : Int) (c : List Int) (s : Nat → Int) (k : Nat) : mon (a :: c) s k = a * s k + mon c (fun i => s (i + 1)) k := by
  show a * s k + op c (fun i => s (i + 1)) k + s (k + (c.length + 1)) = a * s k + (op c (fun i => s (i + 1)) k + s (k + c.length + 1))
  rw [show k + (c.length + 1) = k + c.length + 1 by omega]
  omega
theorem mon_nil (s : Nat → Int) (k : Nat) : mon [] s k = s k := by
  show 0 + s (k + 0) = s k
  rw [Nat.add_zero]
  omega
theorem mon_shift (c : List Int) (s : Nat → Int) (j k : Nat) : mon c (fun i => s (i + j)) k = mon c s (k + j) := by
  unfold mon
  rw [op_shift]
  show _ + s (k + c.length + j) = _
  rw [show k + c.length + j = k + j + c.length by omega]
theorem mon_add (c : List Int) (s u : Nat → Int) (k : Nat) : mon c (fun i => s i + u i) k = mon c s k + mon c u k := by
  unfold mon
  rw [op_add]
  show _ + (s (k + c.length) + u (k + c.length)) = _
  omega
theorem mon_smul (c : List Int) (x : Int) (s : Nat → Int) (k : Nat) : mon c (fun i => x * s i) k = x * mon c s k := by
  unfold mon
  rw [op_smul, Int.mul_add]
theorem mon_sub (c : List Int) (s u : Nat → Int) (k : Nat) : mon c (fun i => s i - u i) k = mon c s k - mon c u k := by
  unfold mon
  rw [op_sub]
  show _ + (s (k + c.length) - u (k + c.length)) = _
  omega
theorem mon_dvd {c : List Int} {d : Int} {s : Nat → Int} (h : ∀ k, d ∣ s k) (k : Nat) : d ∣ mon c s k := Int.dvd_add (op_dvd h k) (h _)
theorem op_mon_comm (a b : List Int) (s : Nat → Int) (k : Nat) : op a (mon b s) k = mon b (op a s) k := by
  unfold mon
  rw [op_add a (op b s) (fun i => s (i + b.length)), op_comm, op_shift]
theorem mon_comm (a b : List Int) (s : Nat → Int) (k : Nat) : mon a (mon b s) k = mon b (mon a s) k := by
  show op a (mon b s) k + mon b s (k + a.length) = mon b (fun i => op a s i + s (i + a.length)) k
  rw [mon_add, op_mon_comm, mon_shift]
/-- lists added by places -/
def ladd : List Int → List Int → List Int
  | a :: as, b :: bs => (a + b) :: ladd as bs
  | _, _ => []
theorem ladd_len : ∀ {a b : List Int}, a.length = b.length → (ladd a b).length = a.length
  | [], [], _ => rfl
  | a :: as, b :: bs, h => by
    show (ladd as bs).length + 1 = as.length + 1
    rw [ladd_len (by simpa using h)]
  | _ :: _, [], h => by cases h
  | [], _ :: _, h => by cases h
theorem op_ladd : ∀ {a b : List Int} (s : Nat → Int) (k : Nat), a.length = b.length → op (ladd a b) s k = op a s k + op b s k
  | [], [], s, k, _ => rfl
  | a :: as, b :: bs, s, k, h => by
    show (a + b) * s k + op (ladd as bs) (fun i => s (i + 1)) k = a * s k + op as (fun i => s (i + 1)) k + (b * s k + op bs (fun i => s (i + 1)) k)
    rw [op_ladd _ _ (by simpa using h), Int.add_mul]
    omega
  | _ :: _, [], s, k, h => by cases h
  | [], _ :: _, s, k, h => by cases h
theorem op_lmul (x : Int) (c : List Int) (s : Nat → Int) (k : Nat) : op (c.map (x * ·)) s k = x * op c s k := by
  induction c generalizing s with
  | nil => show (0 : Int) = x * 0; omega
  | cons a as ih =>
    show x * a * s k + op (as.map (x * ·)) (fun i => s (i + 1)) k = x * (a * s k + op as (fun i => s (i + 1)) k)
    rw [ih, Int.mul_add, Int.mul_assoc]
theorem op_snoc (c : List Int) (x : Int) (s : Nat → Int) (k : Nat) : op (c ++ [x]) s k = op c s k + x * s (k + c.length) := by
  induction c generalizing s with
  | nil =>
    show x * s k + 0 = 0 + x * s (k + 0)
    rw [Nat.add_zero]
    omega
  | cons a as ih =>
    show a * s k + op (as ++ [x]) (fun i => s (i + 1)) k = a * s k + op as (fun i => s (i + 1)) k + x * s (k + (as.length + 1))
    rw [ih]
    rw [show k + (as.length + 1) = k + as.length + 1 by omega]
    omega
/-- one monic sum of shifts by another, and what is left -/
theorem mon_div (g : List Int) : ∀ (j : Nat) (c : List Int), c.length = g.length + j → ∃ q r : List Int, q.length = j ∧ r.length = g.length ∧ ∀ (s : Nat → Int) (k : Nat), mon c s k = mon g (mon q s) k + op r s k
  | 0, c, h => by
    refine ⟨[], ladd c (g.map ((-1) * ·)), rfl, ?_, fun s k => ?_⟩
    · rw [ladd_len (by rw [List.length_map]; exact h)]
      exact h
    · rw [op_ladd s k (by rw [List.length_map]; exact h), op_lmul]
      have e : mon [] s = s := funext fun k => mon_nil s k
      rw [e]
      unfold mon
      rw [h, Nat.add_zero]
      omega
  | j + 1, [], h => by simp at h
  | j + 1, c0 :: c, h => by
    obtain ⟨q, r, hq, hr, e⟩ := mon_div g j c (by simp at h; omega)
    by_cases hg : g = []
    · subst hg
      have r0 : r = [] := List.eq_nil_of_length_eq_zero hr
      subst r0
      refine ⟨c0 :: q, [], by rw [List.length_cons, hq], rfl, fun s k => ?_⟩
      rw [mon_cons, e, mon_nil, mon_nil, mon_cons]
      show c0 * s k + (mon q (fun i => s (i + 1)) k + 0) = c0 * s k + mon q (fun i => s (i + 1)) k + 0
      omega
    · have rne : r ≠ [] := by
        intro z
        rw [z] at hr
        exact hg (List.eq_nil_of_length_eq_zero hr.symm)
      obtain ⟨ρ, r', rfl⟩ : ∃ ρ r', r = r' ++ [ρ] := ⟨r.getLast rne, r.dropLast, (List.dropLast_concat_getLast rne).symm⟩
      have hr' : r'.length + 1 = g.length := by simpa using hr
      refine ⟨ρ :: q, ladd (c0 :: r') (g.map ((-ρ) * ·)), by rw [List.length_cons, hq], ?_, fun s k => ?_⟩
      · rw [ladd_len (by rw [List.length_map, List.length_cons]; exact hr')]
        exact hr'
      · have hq2 : mon (ρ :: q) s = fun i => ρ * s i + mon q (fun i => s (i + 1)) i := funext fun i => mon_cons ρ q s i
        rw [hq2, mon_add, mon_smul, mon_cons, e, op_ladd s k (by rw [List.length_map, List.length_cons]; exact hr'), op_lmul, op_snoc]
        show c0 * s k + (mon g (mon q fun i => s (i + 1)) k + (op r' (fun i => s (i + 1)) k + ρ * s (k + r'.length + 1))) = ρ * mon g s k + mon g (mon q fun i => s (i + 1)) k + (c0 * s k + op r' (fun i => s (i + 1)) k + -ρ * op g s k)
        have e2 : mon g s k = op g s k + s (k + r'.length + 1) := by
          unfold mon
          rw [← hr', show k + (r'.length + 1) = k + r'.length + 1 by omega]
        rw [e2, Int.mul_add, Int.neg_mul]
        omega
theorem bezout : ∀ (a b : Nat), ∃ x y : Int, x * a + y * b = Nat.gcd a b := by
  intro a
  induction a using Nat.strongRecOn with
  | ind a ih =>
    intro b
    cases a with
    | zero => exact ⟨0, 1, by rw [Nat.gcd_zero_left]; omega⟩
    | succ a =>
      obtain ⟨x, y, h⟩ := ih (b % (a + 1)) (Nat.mod_lt _ (by omega)) (a + 1)
      refine ⟨y - x * (b / (a + 1) : Nat), x, ?_⟩
      rw [Nat.gcd_rec, ← h]
      have e : (b : Int) = ((a + 1 : Nat) : Int) * (b / (a + 1) : Nat) + (b % (a + 1) : Nat) := by
        rw [← Int.natCast_mul, ← Int.natCast_add, Nat.div_add_mod]
      generalize (b / (a + 1) : Nat) = Q at *
      generalize (b % (a + 1) : Nat) = R at *
      generalize ((a + 1 : Nat) : Int) = A at *
      grind
/-- a prime -/
def PrimeN (p : Nat) : Prop := 2 ≤ p ∧ ∀ d, d ∣ p → d = 1 ∨ d = p
theorem prime_inv {p : Nat} (hp : PrimeN p) {x : Int} (h : ¬ (p : Int) ∣ x) : ∃ a : Int, (p : Int) ∣ a * x - 1 := by
  have hg : Nat.gcd x.natAbs p = 1 := by
    rcases hp.2 _ (Nat.gcd_dvd_right x.natAbs p) with z | z
    · exact z
    · have h2 := Nat.gcd_dvd_left x.natAbs p
      rw [z] at h2
      exact absurd (Int.ofNat_dvd_left.mpr h2) h
  obtain ⟨a, b, e⟩ := bezout x.natAbs p
  rw [hg] at e
  rcases Int.natAbs_eq x with z | z
  · refine ⟨a, -b, ?_⟩
    rw [← z] at e
    grind
  · refine ⟨-a, -b, ?_⟩
    have z2 : (x.natAbs : Int) = -x := by omega
    rw [z2] at e
    grind
theorem prime_dvd {p : Nat} (hp : PrimeN p) {a b : Int} (h : (p : Int) ∣ a * b) : (p : Int) ∣ a ∨ (p : Int) ∣ b := by
  by_cases ha : (p : Int) ∣ a
  · exact .inl ha
  · obtain ⟨c, d, hc⟩ := prime_inv hp ha
    obtain ⟨e, he⟩ := h
    exact .inr ⟨c * e - d * b, by grind⟩
/-- a sum of shifts that is not all nought by the prime makes a monic one that is shorter -/
theorem op_top {p : Nat} (hp : PrimeN p) : ∀ (n : Nat) (r : List Int), r.length = n → (∀ x ∈ r, (p : Int) ∣ x) ∨ ∃ g : List Int, g.length < n ∧ ∀ s : Nat → Int, Zr p (op r s) → Zr p (mon g s) := by
  intro n
  induction n with
  | zero =>
    intro r h
    rw [List.eq_nil_of_length_eq_zero h]
    exact .inl fun x hx => nomatch hx
  | succ n ih =>
    intro r h
    have rne : r ≠ [] := by intro z; rw [z] at h; cases h
    obtain ⟨x, r', rfl⟩ : ∃ ρ r', r = r' ++ [ρ] := ⟨r.getLast rne, r.dropLast, (List.dropLast_concat_getLast rne).symm⟩
    have h' : r'.length = n := by simpa using h
    by_cases hx : (p : Int) ∣ x
    · rcases ih r' h' with z | ⟨g, g1, g2⟩
      · refine .inl fun y hy => ?_
        rcases List.mem_append.mp hy with q | q
        · exact z y q
        · rw [List.mem_singleton.mp q]; exact hx
      · refine .inr ⟨g, by omega, fun s hs => g2 s fun k => ?_⟩
        have := hs k
        rw [op_snoc] at this
        exact (Int.dvd_iff_dvd_of_dvd_add this).mpr (Int.dvd_mul_of_dvd_left hx)
    · obtain ⟨a, d, hd⟩ := prime_inv hp hx
      refine .inr ⟨r'.map (a * ·), by rw [List.length_map]; omega, fun s hs k => ?_⟩
      have q := hs k
      rw [op_snoc] at q
      obtain ⟨e, he⟩ := q
      unfold mon
      rw [op_lmul, List.length_map]
      refine ⟨a * e - d * s (k + r'.length), ?_⟩
      generalize op r' s k = A at *
      generalize s (k + r'.length) = B at *
      grind
theorem op_zero {p : Nat} {r : List Int} (h : ∀ x ∈ r, (p : Int) ∣ x) (s : Nat → Int) : Zr p (op r s) := by
  intro k
  induction r generalizing s with
  | nil => exact ⟨0, by show (0 : Int) = _; omega⟩
  | cons a as ih => exact Int.dvd_add (Int.dvd_mul_of_dvd_left (h a List.mem_cons_self)) (ih (fun x hx => h x (List.mem_cons_of_mem _ hx)) _)
/-- the least of the numbers for which something holds -/
theorem least {P : Nat → Prop} : ∀ {n : Nat}, P n → ∃ k, k ≤ n ∧ P k ∧ ∀ j, j < k → ¬ P j := by
  intro n
  induction n using Nat.strongRecOn with
  | ind n ih =>
    intro h
    by_cases z : ∃ j, j < n ∧ P j
    · obtain ⟨j, j1, j2⟩ := z
      obtain ⟨k, k1, k2, k3⟩ := ih j j1 j2
      exact ⟨k, by omega, k2, k3⟩
    · exact ⟨n, Nat.le_refl n, h, fun j hj q => z ⟨j, hj, q⟩⟩
/-- no two shorter monic ones make it -/
def Whole (p : Nat) (c : List Int) : Prop := ¬ ∃ g h : List Int, 0 < g.length ∧ 0 < h.length ∧ g.length + h.length = c.length ∧ ∀ (s : Nat → Int) (k : Nat), (p : Int) ∣ mon c s k - mon g (mon h s) k
theorem zr_sub {p : Nat} {s u : Nat → Int} (h : ∀ k, (p : Int) ∣ s k - u k) (hu : Zr p u) : Zr p s := fun k => by
  obtain ⟨a, ha⟩ := h k
  obtain ⟨b, hb⟩ := hu k
  exact ⟨a + b, by rw [Int.mul_add]; omega⟩
/-- of a whole one each row that is not all nought has the same rounds -/
theorem whole_same {p : Nat} (hp : PrimeN p) {c : List Int} (hw : Whole p c) {s : Nat → Int} (hs : Zr p (mon c s)) (hn : ¬ Zr p s) {k : Nat} (hk : 0 < k) (hr : ∀ i, (p : Int) ∣ s (i + k) - s i) {u : Nat → Int} (hu : Zr p (mon c u)) : ∀ i, (p : Int) ∣ u (i + k) - u i := by
  -- the shortest monic one that makes s nought
  obtain ⟨e, he, ⟨g, hg, hgs⟩, hmin⟩ := least (P := fun e => ∃ g : List Int, g.length = e ∧ Zr p (mon g s)) (n := c.length) ⟨c, rfl, hs⟩
  have e0 : e ≠ 0 := by
    intro z
    rw [z] at hg
    rw [List.eq_nil_of_length_eq_zero hg] at hgs
    exact hn fun k => by have := hgs k; rw [mon_nil] at this; exact this
  have small : ∀ r : List Int, r.length = e → Zr p (op r s) → ∀ x ∈ r, (p : Int) ∣ x := by
    intro r hr hz
    rcases op_top hp e r hr with z | ⟨g', g1, g2⟩
    · exact z
    · exact absurd ⟨g', rfl, g2 s hz⟩ (hmin g'.length g1)
  have ec : e = c.length := by
    rcases Nat.lt_or_ge e c.length with z | z
    · exfalso
      obtain ⟨q, r, hq, hr', ed⟩ := mon_div g (c.length - e) c (by omega)
      have zr : Zr p (op r s) := by
        intro k
        have h1 := hs k
        rw [ed s k] at h1
        have h2 : Zr p (mon g (mon q s)) := by
          intro k
          rw [mon_comm]
          exact mon_dvd hgs k
        exact (Int.dvd_iff_dvd_of_dvd_add h1).mp (h2 k)
      have r0 := small r (by rw [hr', hg]) zr
      refine hw ⟨g, q, by omega, by omega, by omega, fun s k => ?_⟩
      rw [ed s k]
      have := op_zero r0 s k
      have e3 : mon g (mon q s) k + op r s k - mon g (mon q s) k = op r s k := by omega
      rw [e3]
      exact this
    · omega
  rcases Nat.lt_or_ge k e with z | z
  · -- a shorter one would do
    exfalso
    refine hmin k z ⟨(-1) :: List.replicate (k - 1) 0, by rw [List.length_cons, List.length_replicate]; omega, fun i => ?_⟩
    have := one_step k hk s i
    rw [this]
    exact hr i
  · obtain ⟨q, r, hq, hr', ed⟩ := mon_div c (k - c.length) ((-1) :: List.replicate (k - 1) 0) (by rw [List.length_cons, List.length_replicate]; omega)
    have zr : Zr p (op r s) := by
      intro i
      have h1 := hr i
      rw [← one_step k hk s i, ed s i] at h1
      have h2 : Zr p (mon c (mon q s)) := by
        intro k
        rw [mon_comm]
        exact mon_dvd hs k
      exact (Int.dvd_iff_dvd_of_dvd_add h1).mp (h2 i)
    have r0 := small r (by rw [hr', ec]) zr
    intro i
    rw [← one_step k hk u i, ed u i]
    refine Int.dvd_add ?_ (op_zero r0 u i)
    rw [mon_comm]
    exact mon_dvd hu i
where
  one_step (k : Nat) (hk : 0 < k) (s : Nat → Int) (i : Nat) : mon ((-1) :: List.replicate (k - 1) 0) s i = s (i + k) - s i := by
    have z : ∀ (n : Nat) (s : Nat → Int) (i : Nat), op (List.replicate n 0) s i = 0 := by
      intro n
      induction n with
      | zero => intro s i; rfl
      | succ n ih =>
        intro s i
        show 0 * s i + op (List.replicate n 0) _ i = 0
        rw [ih]
        omega
    rw [mon_cons]
    unfold mon
    rw [z, List.length_replicate]
    show -1 * s i + (0 + s (i + (k - 1) + 1)) = s (i + k) - s i
    rw [show i + (k - 1) + 1 = i + k by omega]
    omega
end Mt

/-! C1: rounds by a prime (plain). -/
namespace Mt
theorem len_le {α : Type} [DecidableEq α] : ∀ {a b : List α}, a.Nodup → (∀ x ∈ a, x ∈ b) → a.length ≤ b.length
  | [], b, _, _ => Nat.zero_le _
  | x :: a, b, nd, h => by
    have hx := h x List.mem_cons_self
    have nd' := List.nodup_cons.mp nd
    have := len_le (a := a) (b := b.erase x) nd'.2 fun y hy => by
      have : y ≠ x := fun z => nd'.1 (z ▸ hy)
      exact (List.mem_erase_of_ne this).mpr (h y (List.mem_cons_of_mem _ hy))
    rw [List.length_erase_of_mem hx] at this
    have : 0 < b.length := List.length_pos_of_mem hx
    rw [List.length_cons]
    omega
theorem nodup_map {α β : Type} (f : α → β) {l : List α} (h : l.Pairwise fun a b => f a ≠ f b) : (l.map f).Nodup := by
  unfold List.Nodup
  rw [List.pairwise_map]
  exact h
theorem nodup_itr {α : Type} {T : α → α} {v : α} {n : Nat} (h : ∀ i j, i < j → j < n → itr T i v ≠ itr T j v) : ((List.range n).map fun i => itr T i v).Nodup := by
  refine nodup_map _ ?_
  refine List.pairwise_iff_getElem.mpr fun i j hi hj hij => ?_
  rw [List.getElem_range, List.getElem_range]
  rw [List.length_range] at hj
  exact h i j hij hj
theorem itr_closed {α : Type} {T : α → α} {P : α → Prop} (h : ∀ x, P x → P (T x)) : ∀ (n : Nat) (x : α), P x → P (itr T n x)
  | 0, x, hx => hx
  | n + 1, x, hx => itr_closed h n (T x) (h x hx)
/-- all rounds of one length: it goes into how many there are -/
theorem round_dvd {α : Type} [DecidableEq α] {T : α → α} {l : Nat} (hl : 0 < l) : ∀ (n : Nat) (S : List α), S.length = n → S.Nodup → (∀ x ∈ S, T x ∈ S) → (∀ x ∈ S, itr T l x = x) → (∀ x ∈ S, ∀ j, 0 < j → j < l → itr T j x ≠ x) → l ∣ S.length := by
  intro n
  induction n using Nat.strongRecOn with
  | ind n ih =>
    intro S hn nd cl per mn
    match S, hn, nd, cl, per, mn with
    | [], hn, nd, cl, per, mn => exact ⟨0, rfl⟩
    | v :: S', hn, nd, cl, per, mn =>
      generalize hS : v :: S' = S at *
      have hv : v ∈ S := by rw [← hS]; exact List.mem_cons_self
      have inS : ∀ k, itr T k v ∈ S := fun k => itr_closed (P := fun x => x ∈ S) cl k v hv
      have back : ∀ i x, x ∈ S → i ≤ l → itr T (l - i) (itr T i x) = x := fun i x hx hi => by
        rw [← itr_add, show l - i + i = l by omega]
        exact per x hx
      let Ob := (List.range l).map fun i => itr T i v
      have ndO : Ob.Nodup := nodup_itr fun i j hij hj e => by
        have h1 := back i v hv (by omega)
        have h2 : itr T (l - i) (itr T j v) = itr T (j - i) v := by
          rw [← itr_add, show l - i + j = (j - i) + l by omega, itr_add, per v hv]
        rw [e, h2] at h1
        exact mn v hv (j - i) (by omega) (by omega) h1
      have memO : ∀ x, x ∈ Ob ↔ ∃ i, i < l ∧ itr T i v = x := fun x => by
        show x ∈ (List.range l).map _ ↔ _
        rw [List.mem_map]
        constructor
        · rintro ⟨i, hi, e⟩; exact ⟨i, List.mem_range.mp hi, e⟩
        · rintro ⟨i, hi, e⟩; exact ⟨i, List.mem_range.mpr hi, e⟩
      have clO : ∀ x, x ∈ Ob → ∀ k, itr T k x ∈ Ob := by
        intro x hx k
        obtain ⟨i, hi, rfl⟩ := (memO x).mp hx
        rw [← itr_add]
        generalize k + i = m
        refine (memO _).mpr ⟨m % l, Nat.mod_lt _ hl, ?_⟩
        have e : ∀ q, itr T (l * q) v = v := by
          intro q
          induction q with
          | zero => rfl
          | succ q ih => rw [Nat.mul_succ, itr_add, per v hv, ih]
        rw [show itr T m v = itr T (m % l + l * (m / l)) v by rw [Nat.mod_add_div], itr_add, e]
      let R := S.filter fun x => !decide (x ∈ Ob)
      have memR : ∀ x, x ∈ R ↔ x ∈ S ∧ x ∉ Ob := fun x => by
        show x ∈ S.filter _ ↔ _
        rw [List.mem_filter]
        simp
      have lenS : S.length = l + R.length := by
        have e : S.length = (S.filter fun x => decide (x ∈ Ob)).length + R.length := by
          have := List.length_eq_countP_add_countP (fun x => decide (x ∈ Ob)) (l := S)
          rw [List.countP_eq_length_filter, List.countP_eq_length_filter] at this
          rw [this]
          congr 2
          apply List.filter_congr
          intro x _
          simp
        have e2 : (S.filter fun x => decide (x ∈ Ob)).length = l := by
          have l1 : Ob.length = l := by show ((List.range l).map _).length = l; simp
          apply Nat.le_antisymm
          · rw [← l1]
            exact len_le (nd.filter _) fun x hx => by simpa using (List.mem_filter.mp hx).2
          · rw [← l1]
            refine len_le ndO fun x hx => List.mem_filter.mpr ⟨?_, by simpa using hx⟩
            obtain ⟨i, _, rfl⟩ := (memO x).mp hx
            exact inS i
        omega
      have := ih R.length (by omega) R rfl (nd.filter _) (fun x hx => by
        obtain ⟨h1, h2⟩ := (memR x).mp hx
        refine (memR _).mpr ⟨cl x h1, fun z => h2 ?_⟩
        have := clO _ z (l - 1)
        rw [show itr T (l - 1) (T x) = itr T (l - 1 + 1) x from (itr_add T (l - 1) 1 x).symm, show l - 1 + 1 = l by omega, per x h1] at this
        exact this) (fun x hx => per x ((memR x).mp hx).1) (fun x hx => mn x ((memR x).mp hx).1)
      rw [lenS]
      exact Nat.dvd_add (Nat.dvd_refl l) this
/-- all states -/
def allS (p : Nat) : Nat → List (List Int)
  | 0 => [[]]
  | n + 1 => (List.range p).flatMap fun (x : Nat) => (allS p n).map ((x : Int) :: ·)
theorem allS_mem {p : Nat} : ∀ {n : Nat} {s : List Int}, s ∈ allS p n ↔ Ok (p : Int) n s
  | 0, s => by
    show s ∈ [[]] ↔ _
    rw [List.mem_singleton]
    constructor
    · rintro rfl; exact ⟨rfl, fun x hx => nomatch hx⟩
    · intro h; exact List.eq_nil_of_length_eq_zero h.len
  | n + 1, s => by
    show s ∈ (List.range p).flatMap _ ↔ _
    rw [List.mem_flatMap]
    constructor
    · rintro ⟨x, hx, hs⟩
      obtain ⟨r, hr, rfl⟩ := List.mem_map.mp hs
      have := allS_mem.mp hr
      have hx := List.mem_range.mp hx
      refine ⟨by rw [List.length_cons, this.len], fun y hy => ?_⟩
      rcases List.mem_cons.mp hy with rfl | hy
      · omega
      · exact this.rng y hy
    · intro h
      match s, h with
      | [], h => exact absurd h.len (by simp)
      | y :: r, h =>
        have hy := h.rng y List.mem_cons_self
        refine ⟨y.toNat, List.mem_range.mpr (by omega), List.mem_map.mpr ⟨r, allS_mem.mpr ⟨by simpa using h.len, fun z hz => h.rng z (List.mem_cons_of_mem _ hz)⟩, ?_⟩⟩
        rw [Int.toNat_of_nonneg hy.1]
theorem allS_len (p : Nat) : ∀ n : Nat, (allS p n).length = p ^ n
  | 0 => rfl
  | n + 1 => by
    show ((List.range p).flatMap fun (x : Nat) => (allS p n).map ((x : Int) :: ·)).length = _
    rw [List.length_flatMap]
    have e : (List.range p).map (fun (x : Nat) => ((allS p n).map ((x : Int) :: ·)).length) = List.replicate p (p ^ n) := by
      rw [List.eq_replicate_iff]
      refine ⟨by simp, fun b hb => ?_⟩
      obtain ⟨x, _, rfl⟩ := List.mem_map.mp hb
      rw [List.length_map, allS_len p n]
    rw [e, List.sum_replicate_nat, Nat.pow_succ, Nat.mul_comm]
theorem allS_nodup (p : Nat) : ∀ n : Nat, (allS p n).Nodup
  | 0 => by show [[]].Nodup; simp
  | n + 1 => by
    have ih := allS_nodup p n
    show ((List.range p).flatMap fun (x : Nat) => (allS p n).map ((x : Int) :: ·)).Nodup
    unfold List.Nodup
    rw [List.pairwise_flatMap]
    constructor
    · intro x _
      exact nodup_map _ (ih.imp fun h e => h (List.cons.inj e).2)
    · refine (List.pairwise_lt_range (n := p)).imp fun {a b} hab => ?_
      intro x hx y hy e
      obtain ⟨r, _, rfl⟩ := List.mem_map.mp hx
      obtain ⟨q, _, rfl⟩ := List.mem_map.mp hy
      have := (List.cons.inj e).1
      omega
theorem op_ev : ∀ (c : List Int) (s : Nat → Int) (k : Nat), op c s k = ev s c k
  | [], s, k => rfl
  | a :: c, s, k => by
    show a * s k + op c (fun i => s (i + 1)) k = a * s k + ev s c (k + 1)
    rw [op_ev c, show (fun i => s (i + 1)) = fun i => s (1 + i) from funext fun i => by rw [Nat.add_comm], ev_shift, Nat.add_comm 1 k]
/-- the weights by which a monic sum of shifts is nought -/
def wOf (p : Nat) (c : List Int) : List Int := c.map fun x => (-x) % (p : Int)
theorem ev_wOf {p : Nat} (s : Nat → Int) : ∀ (c : List Int) (o : Nat), (p : Int) ∣ ev s (wOf p c) o + ev s c o
  | [], o => ⟨0, by show (0 : Int) + 0 = _; omega⟩
  | x :: c, o => by
    obtain ⟨a, ha⟩ := ev_wOf (p := p) s c (o + 1)
    obtain ⟨b, hb⟩ := Cg.mod (p : Int) (-x)
    show (p : Int) ∣ (-x) % (p : Int) * s o + ev s (wOf p c) (o + 1) + (x * s o + ev s c (o + 1))
    exact ⟨a + b * s o, by grind⟩
theorem sq_mon {p : Nat} (hp : 0 < p) {c v : List Int} (h1 : 1 ≤ c.length) (hv : Ok (p : Int) c.length v) : Zr p (mon c (sq p (wOf p c) v)) := by
  intro k
  have hl : (wOf p c).length = c.length := List.length_map ..
  have h := sq_cg (m := (p : Int)) (ws := wOf p c) (s := v) (by omega) (by omega) (by rw [hl]; exact hv) k
  rw [hl] at h
  unfold mon
  rw [op_ev]
  obtain ⟨a, ha⟩ := h
  obtain ⟨b, hb⟩ := ev_wOf (p := p) (sq p (wOf p c) v) c k
  exact ⟨a + b, by rw [Int.mul_add]; omega⟩
/-- rows that begin alike are alike -/
theorem mon_same {p : Nat} {c : List Int} {s u : Nat → Int} (hs : Zr p (mon c s)) (hu : Zr p (mon c u)) (h : ∀ i, i < c.length → (p : Int) ∣ s i - u i) : ∀ i, (p : Int) ∣ s i - u i := by
  intro i
  induction i using Nat.strongRecOn with
  | ind i ih =>
    rcases Nat.lt_or_ge i c.length with z | z
    · exact h i z
    · have h1 := hs (i - c.length)
      have h2 := hu (i - c.length)
      unfold mon at h1 h2
      rw [show i - c.length + c.length = i by omega] at h1 h2
      have h3 : (p : Int) ∣ op c s (i - c.length) - op c u (i - c.length) := by
        have go : ∀ (c : List Int) (o : Nat), o + c.length ≤ i → (p : Int) ∣ ev s c o - ev u c o := by
          intro c
          induction c with
          | nil => intro o _; exact ⟨0, by show (0 : Int) - 0 = _; omega⟩
          | cons x c ihc =>
            intro o ho
            have ho : o + (c.length + 1) ≤ i := ho
            obtain ⟨a, ha⟩ := ihc (o + 1) (by omega)
            obtain ⟨b, hb⟩ := ih o (by omega)
            show (p : Int) ∣ x * s o + ev s c (o + 1) - (x * u o + ev u c (o + 1))
            exact ⟨a + x * b, by grind⟩
        rw [op_ev, op_ev]
        exact go c _ (by omega)
      obtain ⟨a, ha⟩ := h1
      obtain ⟨b, hb⟩ := h2
      obtain ⟨d, hd⟩ := h3
      exact ⟨a - b - d, by grind⟩
theorem rng0 {p : Nat} {x : Int} (h : 0 ≤ x ∧ x < p) (hd : (p : Int) ∣ x) : x = 0 := by
  obtain ⟨k, rfl⟩ := hd
  have : (p : Int) * k < p * 1 := by omega
  have h1 : k < 1 := Int.lt_of_mul_lt_mul_left this (by omega)
  have h2 : 0 ≤ k := by
    rcases Int.lt_or_le k 0 with z | z
    · have : (p : Int) * k ≤ p * (-1) := Int.mul_le_mul_of_nonneg_left (by omega) (by omega)
      omega
    · exact z
  have : k = 0 := by omega
  rw [this]
  omega
theorem sq_period {p : Nat} (hp : 0 < p) {ws v : List Int} (h1 : 1 ≤ ws.length) (hv : Ok (p : Int) ws.length v) (k : Nat) : itr (stp p ws) k v = v ↔ ∀ i, (p : Int) ∣ sq p ws v (i + k) - sq p ws v i := by
  have hp' : (0 : Int) < p := by omega
  constructor
  · intro h i
    unfold sq
    rw [itr_add, h]
    exact ⟨0, by omega⟩
  · intro h
    have e0 := itr_sq hp' h1 hv k
    have e1 := itr_sq hp' h1 hv 0
    rw [e0]
    conv => rhs; rw [show v = itr (stp p ws) 0 v from rfl, e1]
    apply List.map_congr_left
    intro j _
    rw [Nat.zero_add, Nat.add_comm k j]
    have r1 := sq_rng hp' h1 hv (j + k)
    have r2 := sq_rng hp' h1 hv j
    exact rng_eq r1 r2 (h j)
/-- a whole one: each row comes again behind one less than the states -/
theorem whole_round {p : Nat} (hp : PrimeN p) {c : List Int} (h1 : 1 ≤ c.length) (hw : Whole p c) (h0 : ¬ (p : Int) ∣ c.headD 0) {u : Nat → Int} (hu : Zr p (mon c u)) : ∀ i, (p : Int) ∣ u (i + (p ^ c.length - 1)) - u i := by
  have p2 := hp.1
  have hp' : (0 : Int) < p := by omega
  have hl : (wOf p c).length = c.length := List.length_map ..
  generalize hws : wOf p c = ws at *
  have l1 : 1 ≤ ws.length := by omega
  -- the share that undoes
  obtain ⟨sh, hsh⟩ : ∃ sh : Int, Cg p (sh * ws.getD 0 0) 1 := by
    obtain ⟨x, r, rfl⟩ : ∃ x r, c = x :: r := by
      cases c with
      | nil => simp at h1
      | cons x r => exact ⟨x, r, rfl⟩
    obtain ⟨a, ha⟩ := prime_inv hp h0
    refine ⟨-a, ?_⟩
    rw [← hws]
    show (p : Int) ∣ -a * ((-x) % (p : Int)) - 1
    obtain ⟨b, hb⟩ := Cg.mod (p : Int) (-x)
    obtain ⟨d, hd⟩ := ha
    have hd : a * x - 1 = p * d := hd
    exact ⟨d - a * b, by grind⟩
  let T := stp (p : Int) ws
  let Bk := bck (p : Int) sh ws
  have okT : ∀ s, Ok (p : Int) ws.length s → Ok (p : Int) ws.length (T s) := fun s hs => ok_stp hp' l1 hs
  have bT : ∀ s, Ok (p : Int) ws.length s → Bk (T s) = s := fun s hs => bck_stp hp' l1 hsh hs
  have can : ∀ (n : Nat) s, Ok (p : Int) ws.length s → itr Bk n (itr T n s) = s := itr_cancel okT bT
  let z : List Int := List.replicate ws.length 0
  have okz : Ok (p : Int) ws.length z := ⟨List.length_replicate, fun x hx => by rw [(List.mem_replicate.mp hx).2]; omega⟩
  have Tz : T z = z := by
    have d0 : ∀ (ws : List Int) (n : Nat), dot ws (List.replicate n 0) = 0 := by
      intro ws
      induction ws with
      | nil => intro n; rfl
      | cons a r ih =>
        intro n
        cases n with
        | zero => rfl
        | succ n => rw [List.replicate_succ, dot_cons, ih]; omega
    show z.drop 1 ++ [dot ws z % (p : Int)] = z
    rw [d0, Int.zero_emod]
    show (List.replicate ws.length (0 : Int)).drop 1 ++ List.replicate 1 0 = List.replicate ws.length 0
    rw [List.drop_replicate, List.replicate_append_replicate, show ws.length - 1 + 1 = ws.length by omega]
  let S := (allS p ws.length).erase z
  have ndS : S.Nodup := (allS_nodup p ws.length).erase z
  have memS : ∀ s, s ∈ S ↔ Ok (p : Int) ws.length s ∧ s ≠ z := fun s => by
    show s ∈ (allS p ws.length).erase z ↔ _
    rw [(allS_nodup p ws.length).mem_erase_iff, allS_mem]
    exact And.comm
  have lenS : S.length = p ^ ws.length - 1 := by
    show ((allS p ws.length).erase z).length = _
    rw [List.length_erase_of_mem (allS_mem.mpr okz), allS_len]
  have clS : ∀ s ∈ S, T s ∈ S := fun s hs => by
    obtain ⟨a, b⟩ := (memS s).mp hs
    refine (memS _).mpr ⟨okT s a, fun e => b ?_⟩
    have h2 := bT s a
    have h3 := bT z okz
    rw [Tz] at h3
    rw [e, h3] at h2
    exact h2.symm
  have nz : ∀ s, s ∈ S → ¬ Zr p (sq p ws s) := fun s hs hz => by
    obtain ⟨a, b⟩ := (memS s).mp hs
    apply b
    have e1 := itr_sq hp' l1 a 0
    rw [show itr (stp p ws) 0 s = s from rfl] at e1
    rw [e1]
    show _ = List.replicate ws.length (0 : Int)
    rw [List.eq_replicate_iff]
    refine ⟨by simp, fun x hx => ?_⟩
    obtain ⟨j, _, rfl⟩ := List.mem_map.mp hx
    exact rng0 (sq_rng hp' l1 a _) (hz _)
  have rowZ : ∀ s, s ∈ S → Zr p (mon c (sq p ws s)) := fun s hs => by
    rw [← hws]
    exact sq_mon (by omega) h1 (by rw [← hl]; exact ((memS s).mp hs).1)
  -- one state that is not nought, and its round
  let v : List Int := 1 :: List.replicate (ws.length - 1) 0
  have hv : v ∈ S := by
    refine (memS v).mpr ⟨⟨by show (List.replicate (ws.length - 1) (0 : Int)).length + 1 = _; rw [List.length_replicate]; omega, fun x hx => ?_⟩, fun e => ?_⟩
    · rcases List.mem_cons.mp hx with rfl | hx
      · omega
      · rw [(List.mem_replicate.mp hx).2]; omega
    · have : v.getD 0 0 = z.getD 0 0 := by rw [e]
      have e2 : z.getD 0 0 = 0 := by
        show (List.replicate ws.length (0 : Int)).getD 0 0 = 0
        rw [show ws.length = (ws.length - 1) + 1 by omega, List.replicate_succ]
        rfl
      rw [e2] at this
      have e3 : v.getD 0 0 = 1 := rfl
      omega
  have okv := ((memS v).mp hv).1
  have ex : ∃ k, 0 < k ∧ itr T k v = v := by
    apply Classical.byContradiction
    intro hno
    have nd := nodup_itr (T := T) (v := v) (n := p ^ ws.length + 1) fun i j hij _ e => hno ⟨j - i, by omega, by
      have h2 := can i v okv
      have h3 := can i (itr T (j - i) v) (itr_closed okT (j - i) v okv)
      rw [← itr_add, show i + (j - i) = j by omega, ← e, h2] at h3
      exact h3.symm⟩
    have := len_le (b := allS p ws.length) nd fun x hx => by
      obtain ⟨i, _, rfl⟩ := List.mem_map.mp hx
      exact allS_mem.mpr (itr_closed okT i v okv)
    rw [List.length_map, List.length_range, allS_len] at this
    omega
  obtain ⟨k0, k1, k2⟩ := ex
  obtain ⟨l, _, ⟨l0, lv⟩, lmin⟩ := least (P := fun k => 0 < k ∧ itr T k v = v) (n := k0) ⟨k1, k2⟩
  have allP : ∀ s ∈ S, itr T l s = s := fun s hs =>
    (sq_period (by omega) l1 ((memS s).mp hs).1 l).mpr (whole_same hp hw (rowZ v hv) (nz v hv) l0 ((sq_period (by omega) l1 okv l).mp lv) (rowZ s hs))
  have mins : ∀ s ∈ S, ∀ j, 0 < j → j < l → itr T j s ≠ s := fun s hs j j0 jl e =>
    lmin j jl ⟨j0, (sq_period (by omega) l1 okv j).mpr (whole_same hp hw (rowZ s hs) (nz s hs) j0 ((sq_period (by omega) l1 ((memS s).mp hs).1 j).mp e) (rowZ v hv))⟩
  obtain ⟨q, hq⟩ := round_dvd l0 _ S rfl ndS clS allP mins
  have one : ∀ i, (p : Int) ∣ u (i + l) - u i := whole_same hp hw (rowZ v hv) (nz v hv) l0 ((sq_period (by omega) l1 okv l).mp lv) hu
  rw [← hl, ← lenS, hq]
  intro i
  have go : ∀ q, (p : Int) ∣ u (i + l * q) - u i := by
    intro q
    induction q with
    | zero => exact ⟨0, by rw [Nat.mul_zero, Nat.add_zero]; omega⟩
    | succ q ih =>
      obtain ⟨a, ha⟩ := ih
      obtain ⟨b, hb⟩ := one (i + l * q)
      rw [Nat.mul_succ, ← Nat.add_assoc]
      exact ⟨a + b, by rw [Int.mul_add]; omega⟩
  exact go q
end Mt

/-! C2: rounds by powers of a prime (plain). -/
namespace Mt
/-- differences over L steps, b times -/
def dif (L : Nat) : Nat → (Nat → Int) → Nat → Int
  | 0, s => s
  | b + 1, s => dif L b fun k => s (k + L) - s k
theorem dif_zero {p : Nat} {L : Nat} : ∀ {b : Nat} {s : Nat → Int}, Zr p s → Zr p (dif L b s)
  | 0, s, h => h
  | b + 1, s, h => dif_zero (b := b) fun k => by
    obtain ⟨x, hx⟩ := h (k + L)
    obtain ⟨y, hy⟩ := h k
    exact ⟨x - y, by rw [Int.mul_sub]; omega⟩
theorem dif_shift (L : Nat) : ∀ (b : Nat) (s : Nat → Int) (j k : Nat), dif L b (fun i => s (i + j)) k = dif L b s (k + j)
  | 0, s, j, k => rfl
  | b + 1, s, j, k => by
    show dif L b (fun k => s (k + L + j) - s (k + j)) k = dif L b (fun k => s (k + L) - s k) (k + j)
    rw [← dif_shift L b (fun k => s (k + L) - s k) j k]
    congr 1
    funext i
    show s (i + L + j) - _ = s (i + j + L) - _
    rw [show i + L + j = i + j + L by omega]
theorem dif_mon (L : Nat) (c : List Int) : ∀ (b : Nat) (s : Nat → Int) (k : Nat), dif L b (mon c s) k = mon c (dif L b s) k
  | 0, s, k => rfl
  | b + 1, s, k => by
    show dif L b (fun k => mon c s (k + L) - mon c s k) k = mon c (dif L b fun k => s (k + L) - s k) k
    rw [← dif_mon L c b (fun k => s (k + L) - s k) k]
    congr 1
    funext i
    rw [mon_sub, mon_shift]
theorem dif_add (L : Nat) : ∀ (a b : Nat) (s : Nat → Int), dif L (a + b) s = dif L a (dif L b s)
  | a, 0, s => rfl
  | a, b + 1, s => dif_add L a b _
theorem dif_zr_shift {p L a b : Nat} {s : Nat → Int} (h : ∀ k, (p : Int) ∣ s (k + a)) : ∀ k, (p : Int) ∣ dif L b s (k + a) := fun k => by
  rw [← dif_shift]
  exact dif_zero (s := fun i => s (i + a)) h k
/-- a row by a monic sum of n shifts: n steps on, n differences make it nought -/
theorem by_prime {p : Nat} (hp : PrimeN p) : ∀ (n : Nat) (c : List Int) (L : Nat) (s : Nat → Int), c.length = n → (∀ i, 1 ≤ i → i ≤ n → p ^ i - 1 ∣ L) → Zr p (mon c s) → ∀ k, (p : Int) ∣ dif L n s (k + n) := by
  intro n
  induction n using Nat.strongRecOn with
  | ind n ih =>
    intro c L s hc hL hs k
    rcases Nat.eq_zero_or_pos n with z | hn
    · subst z
      have : c = [] := List.eq_nil_of_length_eq_zero hc
      subst this
      have := hs (k + 0)
      rw [mon_nil] at this
      exact this
    · by_cases hw : Whole p c
      · by_cases h0 : (p : Int) ∣ c.headD 0
        · -- the first share is nought
          obtain ⟨x, r, rfl⟩ : ∃ x r, c = x :: r := by
            cases c with
            | nil => simp at hc; omega
            | cons x r => exact ⟨x, r, rfl⟩
          have h0 : (p : Int) ∣ x := h0
          cases r with
          | nil =>
            have hn1 : n = 1 := by simpa using hc.symm
            subst hn1
            refine dif_zr_shift (fun k => ?_) k
            have h1 := hs k
            rw [mon_cons, mon_nil] at h1
            exact (Int.dvd_iff_dvd_of_dvd_add h1).mp (Int.dvd_mul_of_dvd_left h0)
          | cons y r =>
            exfalso
            refine hw ⟨[0], y :: r, by simp, by simp, by simp; omega, fun s k => ?_⟩
            have e : mon [0] (mon (y :: r) s) k = mon (y :: r) (fun i => s (i + 1)) k := by
              rw [mon_cons, mon_nil, mon_shift]
              show 0 * _ + mon (y :: r) s (k + 1) = _
              omega
            rw [e, mon_cons x]
            obtain ⟨d, hd⟩ := h0
            have hd : x = p * d := hd
            exact ⟨d * s k, by rw [hd]; grind⟩
        · have h1 := whole_round hp (by omega) hw h0 hs
          rw [hc] at h1
          obtain ⟨q, hq⟩ := hL n hn (Nat.le_refl n)
          have hz : Zr p fun k => s (k + L) - s k := by
            intro k
            show (p : Int) ∣ s (k + L) - s k
            rw [hq]
            have go : ∀ q, (p : Int) ∣ s (k + (p ^ n - 1) * q) - s k := by
              intro q
              induction q with
              | zero => exact ⟨0, by rw [Nat.mul_zero, Nat.add_zero]; omega⟩
              | succ q ih =>
                obtain ⟨a, ha⟩ := ih
                obtain ⟨b, hb⟩ := h1 (k + (p ^ n - 1) * q)
                rw [Nat.mul_succ, ← Nat.add_assoc]
                exact ⟨a + b, by rw [Int.mul_add]; omega⟩
            exact go q
          obtain ⟨m, rfl⟩ : ∃ m, n = m + 1 := ⟨n - 1, by omega⟩
          exact dif_zero (L := L) (b := m) hz (k + (m + 1))
      · obtain ⟨g, h, g0, h0, gh, e⟩ := Classical.not_not.mp hw
        -- first the one, then the other
        have z1 : Zr p (mon g (mon h s)) := fun k => by
          obtain ⟨a, ha⟩ := e s k
          obtain ⟨b, hb⟩ := hs k
          exact ⟨b - a, by rw [Int.mul_sub]; omega⟩
        have i1 := ih g.length (by omega) g L (mon h s) rfl (fun i a b => hL i a (by omega)) z1
        have z2 : Zr p (mon h fun k => dif L g.length s (k + g.length)) := fun k => by
          rw [mon_shift, ← dif_mon]
          exact i1 k
        have i2 := ih h.length (by omega) h L (fun k => dif L g.length s (k + g.length)) rfl (fun i a b => hL i a (by omega)) z2 k
        rw [dif_shift, ← dif_add] at i2
        rw [show n = h.length + g.length by omega]
        rw [show k + (h.length + g.length) = k + h.length + g.length by omega]
        exact i2
/-- numbers that each step adds up -/
def bin : Nat → Nat → Nat
  | _, 0 => 1
  | 0, _ + 1 => 0
  | k + 1, i + 1 => bin k i + bin k (i + 1)
theorem newton {p : Nat} {L : Nat} {s : Nat → Int} {k : Nat} (h : ∀ j, (p : Int) ∣ dif L 4 s (k + L * j)) : ∀ j, (p : Int) ∣ s (k + L * j) - (s k + bin j 1 * dif L 1 s k + bin j 2 * dif L 2 s k + bin j 3 * dif L 3 s k) := by
  -- each difference by itself
  have d0 : ∀ j, s (k + L * (j + 1)) = s (k + L * j) + dif L 1 s (k + L * j) := fun j => by
    show _ = s (k + L * j) + (s (k + L * j + L) - s (k + L * j))
    rw [Nat.mul_succ, ← Nat.add_assoc]
    omega
  have d1 : ∀ b j, dif L b s (k + L * (j + 1)) = dif L b s (k + L * j) + dif L (b + 1) s (k + L * j) := fun b j => by
    have e : dif L (b + 1) s (k + L * j) = dif L b s (k + L * j + L) - dif L b s (k + L * j) := by
      rw [show b + 1 = 1 + b by omega, dif_add]
      rfl
    rw [e, Nat.mul_succ, ← Nat.add_assoc]
    omega
  have b1 : ∀ j, bin (j + 1) 1 = 1 + bin j 1 := fun j => by rw [bin]; cases j <;> rfl
  have b2 : ∀ j, bin (j + 1) 2 = bin j 1 + bin j 2 := fun j => rfl
  have b3 : ∀ j, bin (j + 1) 3 = bin j 2 + bin j 3 := fun j => rfl
  have s3 : ∀ j, (p : Int) ∣ dif L 3 s (k + L * j) - dif L 3 s k := by
    intro j
    induction j with
    | zero => exact ⟨0, by rw [Nat.mul_zero, Nat.add_zero]; omega⟩
    | succ j ih =>
      obtain ⟨a, ha⟩ := ih
      obtain ⟨b, hb⟩ := h j
      have hb : dif L (3 + 1) s (k + L * j) = p * b := hb
      rw [d1 3 j]
      exact ⟨a + b, by rw [Int.mul_add]; omega⟩
  have s2 : ∀ j, (p : Int) ∣ dif L 2 s (k + L * j) - (dif L 2 s k + bin j 1 * dif L 3 s k) := by
    intro j
    induction j with
    | zero => exact ⟨0, by rw [Nat.mul_zero, Nat.add_zero, show bin 0 1 = 0 from rfl]; omega⟩
    | succ j ih =>
      obtain ⟨a, ha⟩ := ih
      obtain ⟨b, hb⟩ := s3 j
      rw [d1 2 j, b1]
      exact ⟨a + b, by grind⟩
  have s1 : ∀ j, (p : Int) ∣ dif L 1 s (k + L * j) - (dif L 1 s k + bin j 1 * dif L 2 s k + bin j 2 * dif L 3 s k) := by
    intro j
    induction j with
    | zero => exact ⟨0, by rw [Nat.mul_zero, Nat.add_zero, show bin 0 1 = 0 from rfl, show bin 0 2 = 0 from rfl]; omega⟩
    | succ j ih =>
      obtain ⟨a, ha⟩ := ih
      obtain ⟨b, hb⟩ := s2 j
      rw [d1 1 j, b1, b2]
      exact ⟨a + b, by grind⟩
  intro j
  induction j with
  | zero => exact ⟨0, by rw [Nat.mul_zero, Nat.add_zero, show bin 0 1 = 0 from rfl, show bin 0 2 = 0 from rfl, show bin 0 3 = 0 from rfl]; omega⟩
  | succ j ih =>
    obtain ⟨a, ha⟩ := ih
    obtain ⟨b, hb⟩ := s1 j
    rw [d0 j, b1, b2, b3]
    exact ⟨a + b, by grind⟩
theorem bin1 (j : Nat) : bin j 1 = j := by
  induction j with
  | zero => rfl
  | succ j ih =>
    rw [bin, ih]
    cases j <;> simp [bin] <;> omega
theorem bin2 (j : Nat) : 2 * (bin j 2 : Int) = j * (j - 1) := by
  induction j with
  | zero => rfl
  | succ j ih =>
    have e : bin (j + 1) 2 = bin j 1 + bin j 2 := rfl
    rw [e, bin1]
    grind
theorem bin3 (j : Nat) : 6 * (bin j 3 : Int) = j * (j - 1) * (j - 2) := by
  induction j with
  | zero => rfl
  | succ j ih =>
    have e : bin (j + 1) 3 = bin j 2 + bin j 3 := rfl
    have := bin2 j
    rw [e]
    grind
theorem prime_not {p a : Nat} (hp : PrimeN p) (h1 : 1 ≤ a) (h2 : a < p) : ¬ (p : Int) ∣ (a : Int) := fun h => by
  have := Nat.le_of_dvd h1 (Int.natCast_dvd_natCast.mp h)
  omega
/-- the least power of a prime that is no less than n goes well with the numbers above -/
theorem bin_prime {p n t : Nat} (hp : PrimeN p) (hn : n ≤ 4) (ht : n ≤ p ^ t) : ∀ i, 1 ≤ i → i < n → (p : Int) ∣ bin (p ^ t) i := by
  have p2 := hp.1
  intro i h1 h2
  have hj : (p : Int) ∣ ((p ^ t : Nat) : Int) := by
    cases t with
    | zero => simp at ht; omega
    | succ t => exact ⟨((p ^ t : Nat) : Int), by rw [Nat.pow_succ, Nat.mul_comm, Int.natCast_mul]⟩
  generalize hJ : p ^ t = J at *
  obtain ⟨a, ha⟩ := hj
  have i1 : i = 1 ∨ i = 2 ∨ i = 3 := by omega
  rcases i1 with rfl | rfl | rfl
  · rw [bin1]; exact ⟨a, ha⟩
  · rcases Nat.lt_or_ge 2 p with z | z
    · -- 2 is no multiple
      have h := bin2 J
      have h3 : (p : Int) ∣ 2 * (bin J 2 : Int) := ⟨a * (J - 1), by rw [h, ha]; grind⟩
      rcases prime_dvd hp h3 with q | q
      · exact absurd q (prime_not (a := 2) hp (by omega) z)
      · exact q
    · have e : p = 2 := by omega
      subst e
      have h := bin2 J
      -- J is a power of two of at least 4
      have h4 : (4 : Int) ∣ (J : Int) := by
        rcases t with _ | _ | t
        · simp at hJ; omega
        · simp at hJ; omega
        · exact ⟨((2 ^ t : Nat) : Int), by rw [← hJ, Nat.pow_succ, Nat.pow_succ, Int.natCast_mul, Int.natCast_mul]; omega⟩
      obtain ⟨b, hb⟩ := h4
      refine ⟨b * (J - 1), ?_⟩
      have : 2 * (bin J 2 : Int) = 2 * (2 * (b * (J - 1))) := by rw [h]; grind
      exact Int.eq_of_mul_eq_mul_left (by decide) this
  · -- n = 4
    have n4 : n = 4 := by omega
    subst n4
    rcases Nat.lt_or_ge 3 p with z | z
    · have h := bin3 J
      have h3 : (p : Int) ∣ 2 * (3 * (bin J 3 : Int)) := ⟨a * (J - 1) * (J - 2), by rw [show 2 * (3 * (bin J 3 : Int)) = 6 * (bin J 3 : Int) by omega, h, ha]; grind⟩
      rcases prime_dvd hp h3 with q | q
      · exact absurd q (prime_not (a := 2) hp (by omega) (by omega))
      · rcases prime_dvd hp q with q | q
        · exact absurd q (prime_not (a := 3) hp (by omega) z)
        · exact q
    · have e : p = 2 ∨ p = 3 := by omega
      rcases e with rfl | rfl
      · have h4 : (4 : Int) ∣ (J : Int) := by
          rcases t with _ | _ | t
          · simp at hJ; omega
          · simp at hJ; omega
          · exact ⟨((2 ^ t : Nat) : Int), by rw [← hJ, Nat.pow_succ, Nat.pow_succ, Int.natCast_mul, Int.natCast_mul]; omega⟩
        obtain ⟨b, hb⟩ := h4
        have h := bin3 J
        have e : 3 * (bin J 3 : Int) = 2 * (b * (J - 1) * (2 * b - 1) * 2) := by
          have : 2 * (3 * (bin J 3 : Int)) = 2 * (2 * (b * (J - 1) * (2 * b - 1) * 2)) := by
            rw [show 2 * (3 * (bin J 3 : Int)) = 6 * (bin J 3 : Int) by omega, h, hb]; grind
          exact Int.eq_of_mul_eq_mul_left (by decide) this
        have h3 : ((2 : Nat) : Int) ∣ 3 * (bin J 3 : Int) := ⟨_, e⟩
        rcases prime_dvd hp h3 with q | q
        · omega
        · exact q
      · have h9 : (9 : Int) ∣ (J : Int) := by
          rcases t with _ | _ | t
          · simp at hJ; omega
          · simp at hJ; omega
          · exact ⟨((3 ^ t : Nat) : Int), by rw [← hJ, Nat.pow_succ, Nat.pow_succ, Int.natCast_mul, Int.natCast_mul]; omega⟩
        obtain ⟨b, hb⟩ := h9
        have h := bin3 J
        have e : 2 * (bin J 3 : Int) = 3 * (b * (J - 1) * (J - 2)) := by
          have : 3 * (2 * (bin J 3 : Int)) = 3 * (3 * (b * (J - 1) * (J - 2))) := by
            rw [show 3 * (2 * (bin J 3 : Int)) = 6 * (bin J 3 : Int) by omega, h]; grind
          exact Int.eq_of_mul_eq_mul_left (by decide) this
        have h3 : ((3 : Nat) : Int) ∣ 2 * (bin J 3 : Int) := ⟨_, e⟩
        rcases prime_dvd hp h3 with q | q
        · omega
        · exact q
theorem dif_more {p L a : Nat} {s : Nat → Int} (h : ∀ k, (p : Int) ∣ s (k + a)) : ∀ b k, (p : Int) ∣ dif L b s (k + a) := fun b k => dif_zr_shift h k
/-- one round for all rows by a prime -/
theorem by_prime_round {p n t L : Nat} (hp : PrimeN p) {c : List Int} {s : Nat → Int} (hn : n ≤ 4) (hc : c.length = n) (ht : n ≤ p ^ t) (hL : ∀ i, 1 ≤ i → i ≤ n → p ^ i - 1 ∣ L) (hs : Zr p (mon c s)) : ∀ k, (p : Int) ∣ s (k + n + L * p ^ t) - s (k + n) := by
  intro k
  have h := by_prime hp n c L s hc hL hs
  -- the differences from n on are nought
  have more : ∀ b, n ≤ b → ∀ k, (p : Int) ∣ dif L b s (k + n) := fun b hb k => by
    rw [show b = (b - n) + n by omega, dif_add]
    exact dif_zr_shift (s := dif L n s) h k
  have nw := newton (p := p) (L := L) (s := s) (k := k + n) (fun j => by rw [show k + n + L * j = (k + L * j) + n by omega]; exact more 4 hn _) (p ^ t)
  have e : ∀ i, 1 ≤ i → (p : Int) ∣ bin (p ^ t) i * dif L i s (k + n) := fun i hi => by
    rcases Nat.lt_or_ge i n with z | z
    · exact Int.dvd_mul_of_dvd_left (bin_prime hp hn ht i hi z)
    · exact Int.dvd_mul_of_dvd_right (more i z k)
  obtain ⟨a, ha⟩ := nw
  obtain ⟨b1, h1⟩ := e 1 (by omega)
  obtain ⟨b2, h2⟩ := e 2 (by omega)
  obtain ⟨b3, h3⟩ := e 3 (by omega)
  exact ⟨a + b1 + b2 + b3, by grind⟩
/-- by powers of the prime -/
theorem by_power {p n B : Nat} (hp : PrimeN p) {c : List Int} (base : ∀ s : Nat → Int, Zr p (mon c s) → ∀ k, (p : Int) ∣ s (k + n + B) - s (k + n)) : ∀ (e : Nat) (s : Nat → Int), Zr (p ^ (e + 1)) (mon c s) → ∀ k, ((p ^ (e + 1) : Nat) : Int) ∣ s (k + n * (e + 1) + B * p ^ e) - s (k + n * (e + 1))
  | 0, s, hs, k => by
    have := base s (by simpa using hs) k
    simpa using this
  | e + 1, s, hs, k => by
    have p0 : ((p : Nat) : Int) ≠ 0 := by have := hp.1; omega
    have pe : ((p ^ (e + 1) : Nat) : Int) ≠ 0 := by
      have : 0 < p ^ (e + 1) := Nat.pow_pos (by have := hp.1; omega)
      omega
    have hs' : Zr (p ^ (e + 1)) (mon c s) := fun k => by
      obtain ⟨a, ha⟩ := hs k
      exact ⟨p * a, by rw [ha, Nat.pow_succ, Int.natCast_mul, Int.mul_assoc]⟩
    have ih := by_power hp base e s hs'
    -- what is left of the powers
    let h : Nat → Int := fun k => (s (k + n * (e + 1) + B * p ^ e) - s (k + n * (e + 1))) / ((p ^ (e + 1) : Nat) : Int)
    have hh : ∀ k, s (k + n * (e + 1) + B * p ^ e) - s (k + n * (e + 1)) = ((p ^ (e + 1) : Nat) : Int) * h k := fun k => (Int.mul_ediv_cancel' (ih k)).symm
    have zh : Zr p (mon c h) := by
      intro k
      have e1 : ((p ^ (e + 1) : Nat) : Int) * mon c h k = mon c s (k + n * (e + 1) + B * p ^ e) - mon c s (k + n * (e + 1)) := by
        rw [← mon_smul]
        have e2 : (fun i => ((p ^ (e + 1) : Nat) : Int) * h i) = fun i => s (i + (n * (e + 1) + B * p ^ e)) - s (i + n * (e + 1)) := by
          funext i
          rw [← hh i, Nat.add_assoc]
        rw [e2, mon_sub, mon_shift, mon_shift, Nat.add_assoc]
      obtain ⟨a, ha⟩ := hs (k + n * (e + 1) + B * p ^ e)
      obtain ⟨b, hb⟩ := hs (k + n * (e + 1))
      refine ⟨a - b, Int.eq_of_mul_eq_mul_left pe ?_⟩
      rw [e1, ha, hb, Nat.pow_succ, Int.natCast_mul]
      grind
    have per := base h zh
    -- the sum of p of them
    have sm : ∀ j, s (k + n + n * (e + 1) + B * p ^ e * j) - s (k + n + n * (e + 1)) = ((p ^ (e + 1) : Nat) : Int) * ((List.range j).map fun i => h (k + n + B * p ^ e * i)).sum := by
      intro j
      induction j with
      | zero =>
        rw [Nat.mul_zero, Nat.add_zero, List.range_zero]
        show _ = ((p ^ (e + 1) : Nat) : Int) * 0
        omega
      | succ j ih =>
        rw [List.range_succ, List.map_append, List.sum_append, Int.mul_add, ← ih]
        show _ = _ + ((p ^ (e + 1) : Nat) : Int) * (h (k + n + B * p ^ e * j) + 0)
        rw [Int.add_zero, ← hh, Nat.mul_succ (B * p ^ e)]
        rw [show k + n + B * p ^ e * j + n * (e + 1) = k + n + n * (e + 1) + B * p ^ e * j by omega, ← Nat.add_assoc (k + n + n * (e + 1))]
        omega
    have alike : ∀ j, (p : Int) ∣ h (k + n + B * p ^ e * j) - h (k + n) := by
      have go : ∀ m, (p : Int) ∣ h (k + n + B * m) - h (k + n) := by
        intro m
        induction m with
        | zero => exact ⟨0, by rw [Nat.mul_zero, Nat.add_zero]; omega⟩
        | succ m ih =>
          obtain ⟨a, ha⟩ := ih
          obtain ⟨b, hb⟩ := per (k + B * m)
          rw [show k + B * m + n + B = k + n + B * (m + 1) by rw [Nat.mul_succ]; omega, show k + B * m + n = k + n + B * m by omega] at hb
          exact ⟨a + b, by rw [Int.mul_add]; omega⟩
      intro j
      rw [Nat.mul_assoc]
      exact go _
    have tot : ∀ j, (p : Int) ∣ ((List.range j).map fun i => h (k + n + B * p ^ e * i)).sum - j * h (k + n) := by
      intro j
      induction j with
      | zero => exact ⟨0, by simp⟩
      | succ j ih =>
        obtain ⟨a, ha⟩ := ih
        obtain ⟨b, hb⟩ := alike j
        rw [List.range_succ, List.map_append, List.sum_append]
        refine ⟨a + b, ?_⟩
        show _ + (h (k + n + B * p ^ e * j) + 0) - ((j + 1 : Nat) : Int) * h (k + n) = _
        generalize ((List.range j).map fun i => h (k + n + B * p ^ e * i)).sum = A at *
        grind
    obtain ⟨a, ha⟩ := tot p
    have fin := sm p
    rw [show n * (e + 1 + 1) = n + n * (e + 1) by rw [Nat.mul_succ]; omega, ← Nat.add_assoc, Nat.pow_succ p e, ← Nat.mul_assoc, fin]
    refine ⟨a + h (k + n), ?_⟩
    have e5 : ((List.range p).map fun i => h (k + n + B * p ^ e * i)).sum = p * (a + h (k + n)) := by rw [Int.mul_add]; omega
    rw [e5, Nat.pow_succ p (e + 1), Int.natCast_mul, Int.mul_assoc]
end Mt

/-! MP: primes of a number, by trying (plain). -/
namespace Mt
theorem prime_pos {p : Nat} (h : PrimeN p) : 2 ≤ p := h.1
/-- some prime goes into each number above 1 -/
theorem has_prime : ∀ n : Nat, 2 ≤ n → ∃ p, PrimeN p ∧ p ∣ n := by
  intro n
  induction n using Nat.strongRecOn with
  | ind n ih =>
    intro hn
    by_cases h : ∃ d, d ∣ n ∧ d ≠ 1 ∧ d ≠ n
    · obtain ⟨d, d1, d2, d3⟩ := h
      have dn : d ≤ n := Nat.le_of_dvd (by omega) d1
      have d0 : d ≠ 0 := by
        intro z
        subst z
        have := Nat.eq_zero_of_zero_dvd d1
        omega
      obtain ⟨p, p1, p2⟩ := ih d (by omega) (by omega)
      exact ⟨p, p1, Nat.dvd_trans p2 d1⟩
    · refine ⟨n, ⟨hn, fun d hd => ?_⟩, Nat.dvd_refl n⟩
      by_cases d1 : d = 1
      · exact .inl d1
      · exact .inr (Classical.byContradiction fun d2 => h ⟨d, hd, d1, d2⟩)
theorem prime_dvd_nat {p a b : Nat} (hp : PrimeN p) (h : p ∣ a * b) : p ∣ a ∨ p ∣ b := by
  have : (p : Int) ∣ (a : Int) * (b : Int) := by
    rw [← Int.natCast_mul]
    exact Int.natCast_dvd_natCast.mpr h
  rcases prime_dvd hp this with z | z
  · exact .inl (Int.natCast_dvd_natCast.mp z)
  · exact .inr (Int.natCast_dvd_natCast.mp z)
theorem prime_eq {p q : Nat} (hp : PrimeN p) (hq : PrimeN q) (h : p ∣ q) : p = q := by
  rcases hq.2 p h with z | z
  · have := hp.1
    omega
  · exact z
/-- a rising list of just the primes of a number -/
structure PrimesL (N : Nat) (L : List Nat) : Prop where
  up : L.Pairwise (· < ·)
  mem : ∀ p, p ∈ L ↔ PrimeN p ∧ p ∣ N
theorem up_unique : ∀ {a b : List Nat}, a.Pairwise (· < ·) → b.Pairwise (· < ·) → (∀ x, x ∈ a ↔ x ∈ b) → a = b
  | [], [], _, _, _ => rfl
  | [], y :: b, _, _, h => by have := (h y).mpr List.mem_cons_self; cases this
  | x :: a, [], _, _, h => by have := (h x).mp List.mem_cons_self; cases this
  | x :: a, y :: b, ha, hb, h => by
    obtain ⟨a1, a2⟩ := List.pairwise_cons.mp ha
    obtain ⟨b1, b2⟩ := List.pairwise_cons.mp hb
    have e : x = y := by
      have hx := (h x).mp List.mem_cons_self
      have hy := (h y).mpr List.mem_cons_self
      rcases List.mem_cons.mp hx with z | z
      · exact z
      · rcases List.mem_cons.mp hy with w | w
        · exact w.symm
        · have := b1 x z
          have := a1 y w
          omega
    subst e
    rw [up_unique a2 b2 fun z => ?_]
    constructor
    · intro hz
      rcases List.mem_cons.mp ((h z).mp (List.mem_cons_of_mem _ hz)) with w | w
      · have := a1 z hz
        omega
      · exact w
    · intro hz
      rcases List.mem_cons.mp ((h z).mpr (List.mem_cons_of_mem _ hz)) with w | w
      · have := b1 z hz
        omega
      · exact w
theorem PrimesL.one {N : Nat} {L L' : List Nat} (h : PrimesL N L) (h' : PrimesL N L') : L = L' := up_unique h.up h'.up fun x => (h.mem x).trans (h'.mem x).symm
/-- trying: what is known when q is next -/
structure Try (N q n : Nat) (L : List Nat) : Prop where
  pos : 1 ≤ n
  q2 : 2 ≤ q
  low : ∀ p, PrimeN p → p ∣ n → q ≤ p
  up : L.Pairwise (· < ·)
  lt : ∀ p ∈ L, p < q
  pr : ∀ p ∈ L, PrimeN p
  all : ∀ p, PrimeN p → (p ∣ N ↔ p ∈ L ∨ p ∣ n)
theorem try_start {N : Nat} (h : 1 ≤ N) : Try N 2 N [] := ⟨h, (by omega), (fun p hp _ => hp.1), List.Pairwise.nil, (fun p hp => by cases hp), (fun p hp => by cases hp), (fun p _ => by simp)⟩
/-- all of a prime taken out -/
def outP (q : Nat) : Nat → Nat → Nat
  | 0, n => n
  | f + 1, n => if n % q = 0 then outP q f (n / q) else n
theorem out_ok {q : Nat} (hq : 2 ≤ q) : ∀ (f n : Nat), n ≤ f → 1 ≤ n → 1 ≤ outP q f n ∧ ¬ q ∣ outP q f n ∧ (∃ k, n = q ^ k * outP q f n) ∧ outP q f n ≤ n
  | 0, n, h, h1 => by omega
  | f + 1, n, h, h1 => by
    unfold outP
    by_cases z : n % q = 0
    · rw [if_pos z]
      have hd : q ∣ n := Nat.dvd_of_mod_eq_zero z
      obtain ⟨c, hc⟩ := hd
      have hc1 : n / q = c := by rw [hc]; exact Nat.mul_div_cancel_left c (by omega)
      have c1 : 1 ≤ c := by
        rcases Nat.eq_zero_or_pos c with w | w
        · rw [w] at hc; omega
        · exact w
      have cn : c < n := by
        rw [hc]
        calc c < 2 * c := by omega
          _ ≤ q * c := Nat.mul_le_mul_right c hq
      rw [hc1]
      obtain ⟨i1, i2, ⟨k, i3⟩, i4⟩ := out_ok hq f c (by omega) c1
      refine ⟨i1, i2, ⟨k + 1, ?_⟩, by omega⟩
      rw [Nat.pow_succ, Nat.mul_assoc, Nat.mul_left_comm, ← i3, hc]
    · rw [if_neg z]
      exact ⟨h1, fun w => z (Nat.mod_eq_zero_of_dvd w), ⟨0, by simp⟩, Nat.le_refl n⟩
theorem prime_pow_dvd {p q k : Nat} (hp : PrimeN p) : p ∣ q ^ k → p ∣ q := by
  induction k with
  | zero =>
    intro h
    rw [Nat.pow_zero] at h
    have := Nat.le_of_dvd (by decide) h
    have := hp.1
    omega
  | succ k ih =>
    intro h
    rw [Nat.pow_succ] at h
    rcases prime_dvd_nat hp h with z | z
    · exact ih z
    · exact z
theorem try_hit {N q n : Nat} {L : List Nat} (h : Try N q n L) (hd : q ∣ n) {n' : Nat} (h1 : 1 ≤ n') (h2 : ¬ q ∣ n') (h3 : ∃ k, n = q ^ k * n') : Try N (q + 1) n' (L ++ [q]) := by
  have q2 := h.q2
  have pq : PrimeN q := by
    refine ⟨q2, fun d hdq => ?_⟩
    by_cases d1 : d = 1
    · exact .inl d1
    · right
      have d0 : d ≠ 0 := by
        intro z
        subst z
        have := Nat.eq_zero_of_zero_dvd hdq
        omega
      obtain ⟨p, p1, p2⟩ := has_prime d (by omega)
      have := h.low p p1 (Nat.dvd_trans (Nat.dvd_trans p2 hdq) hd)
      have dl : d ≤ q := Nat.le_of_dvd (by omega) hdq
      have pl : p ≤ d := Nat.le_of_dvd (by omega) p2
      omega
  obtain ⟨k, hk⟩ := h3
  have dn : n' ∣ n := ⟨q ^ k, by rw [hk, Nat.mul_comm]⟩
  have k0 : k ≠ 0 := by
    intro z
    subst z
    simp at hk
    rw [hk] at hd
    exact h2 hd
  refine ⟨h1, by omega, fun p hp hpn => ?_, ?_, fun p hp => ?_, fun p hp => ?_, fun p hp => ?_⟩
  · have := h.low p hp (Nat.dvd_trans hpn dn)
    rcases Nat.eq_or_lt_of_le this with z | z
    · subst z
      exact absurd hpn h2
    · omega
  · rw [List.pairwise_append]
    refine ⟨h.up, by simp, fun a ha b hb => ?_⟩
    rw [List.mem_singleton.mp hb]
    exact h.lt a ha
  · rcases List.mem_append.mp hp with z | z
    · have := h.lt p z
      omega
    · rw [List.mem_singleton.mp z]
      omega
  · rcases List.mem_append.mp hp with z | z
    · exact h.pr p z
    · rw [List.mem_singleton.mp z]
      exact pq
  · rw [h.all p hp, List.mem_append, List.mem_singleton]
    constructor
    · rintro (z | z)
      · exact .inl (.inl z)
      · rw [hk] at z
        rcases prime_dvd_nat hp z with w | w
        · exact .inl (.inr (prime_eq hp pq (prime_pow_dvd hp w)))
        · exact .inr w
    · rintro ((z | z) | z)
      · exact .inl z
      · subst z
        exact .inr hd
      · exact .inr (Nat.dvd_trans z dn)
theorem try_miss {N q n : Nat} {L : List Nat} (h : Try N q n L) (hd : ¬ q ∣ n) : Try N (q + 1) n L := by
  refine ⟨h.pos, by have := h.q2; omega, fun p hp hpn => ?_, h.up, fun p hp => by have := h.lt p hp; omega, h.pr, h.all⟩
  have := h.low p hp hpn
  rcases Nat.eq_or_lt_of_le this with z | z
  · subst z
    exact absurd hpn hd
  · omega
theorem try_end {N q n : Nat} {L : List Nat} (h : Try N q n L) (hq : n < q * q) : PrimesL N (if 1 < n then L ++ [n] else L) := by
  by_cases n1 : 1 < n
  · rw [if_pos n1]
    have pn : PrimeN n := by
      refine ⟨n1, fun d hd => ?_⟩
      by_cases d1 : d = 1
      · exact .inl d1
      · right
        obtain ⟨c, hc⟩ := hd
        have d0 : d ≠ 0 := by intro z; subst z; simp at hc; omega
        by_cases c1 : c = 1
        · rw [c1, Nat.mul_one] at hc
          exact hc.symm
        · exfalso
          have c0 : c ≠ 0 := by intro z; subst z; simp at hc; omega
          obtain ⟨p, p1, p2⟩ := has_prime d (by omega)
          obtain ⟨r, r1, r2⟩ := has_prime c (by omega)
          have a1 := h.low p p1 (Nat.dvd_trans p2 ⟨c, hc⟩)
          have a2 := h.low r r1 (Nat.dvd_trans r2 ⟨d, by rw [hc, Nat.mul_comm]⟩)
          have b1 : p ≤ d := Nat.le_of_dvd (by omega) p2
          have b2 : r ≤ c := Nat.le_of_dvd (by omega) r2
          have : q * q ≤ d * c := Nat.mul_le_mul (by omega) (by omega)
          omega
    have nq : q ≤ n := h.low n pn (Nat.dvd_refl n)
    refine ⟨?_, fun p => ?_⟩
    · rw [List.pairwise_append]
      refine ⟨h.up, by simp, fun a ha b hb => ?_⟩
      rw [List.mem_singleton.mp hb]
      have := h.lt a ha
      omega
    · rw [List.mem_append, List.mem_singleton]
      constructor
      · rintro (z | z)
        · exact ⟨h.pr p z, (h.all p (h.pr p z)).mpr (.inl z)⟩
        · subst z
          exact ⟨pn, (h.all p pn).mpr (.inr (Nat.dvd_refl p))⟩
      · rintro ⟨hp, hd⟩
        rcases (h.all p hp).mp hd with z | z
        · exact .inl z
        · exact .inr (prime_eq hp pn z)
  · rw [if_neg n1]
    have n0 : n = 1 := by have := h.pos; omega
    refine ⟨h.up, fun p => ⟨fun z => ⟨h.pr p z, (h.all p (h.pr p z)).mpr (.inl z)⟩, fun ⟨hp, hd⟩ => ?_⟩⟩
    rcases (h.all p hp).mp hd with z | z
    · exact z
    · rw [n0] at z
      have := Nat.le_of_dvd (by decide) z
      have := hp.1
      omega
/-- the primes of a number -/
theorem primes_ex (N : Nat) (h : 1 ≤ N) : ∃ L, PrimesL N L := by
  have go : ∀ (f q n : Nat) (L : List Nat), Try N q n L → n + 1 ≤ q + f → ∃ L, PrimesL N L := by
    intro f
    induction f with
    | zero =>
      intro q n L t hf
      have : n < q * q := by
        have := t.q2
        calc n < q := by omega
          _ ≤ q * q := Nat.le_mul_of_pos_left q (by omega)
      exact ⟨_, try_end t this⟩
    | succ f ih =>
      intro q n L t hf
      by_cases hd : q ∣ n
      · obtain ⟨o1, o2, o3, o4⟩ := out_ok t.q2 n n (Nat.le_refl n) t.pos
        exact ih (q + 1) _ _ (try_hit t hd o1 o2 o3) (by omega)
      · exact ih (q + 1) n L (try_miss t hd) (by omega)
  exact go N 2 N [] (try_start h) (by omega)
open Classical in
noncomputable def pl (N : Nat) : List Nat := if h : 1 ≤ N then (primes_ex N h).choose else []
theorem pl_ok {N : Nat} (h : 1 ≤ N) : PrimesL N (pl N) := by
  unfold pl
  rw [dif_pos h]
  exact (primes_ex N h).choose_spec
open Classical in
/-- one prime behind the other taken out -/
noncomputable def procB : List Nat → Nat → Bool
  | [], n => decide (n = 1)
  | p :: r, n => if n % p > 0 ∨ ¬ PrimeN p then false else procB r (outP p n n)
theorem procB_iff : ∀ (L : List Nat) (n : Nat), 1 ≤ n → (∀ p ∈ L, 2 ≤ p) → (procB L n = true ↔ L.Nodup ∧ (∀ p ∈ L, PrimeN p ∧ p ∣ n) ∧ ∀ q, PrimeN q → q ∣ n → q ∈ L)
  | [], n, h1, _ => by
    unfold procB
    rw [decide_eq_true_eq]
    constructor
    · rintro rfl
      refine ⟨List.nodup_nil, (fun p hp => by cases hp), fun q hq hd => ?_⟩
      have := Nat.le_of_dvd (by decide) hd
      have := hq.1
      omega
    · rintro ⟨_, _, h⟩
      rcases Nat.lt_or_ge 1 n with z | z
      · obtain ⟨p, p1, p2⟩ := has_prime n z
        have := h p p1 p2
        cases this
      · omega
  | p :: r, n, h1, h2 => by
    have p2 := h2 p List.mem_cons_self
    unfold procB
    by_cases hc : n % p > 0 ∨ ¬ PrimeN p
    · rw [if_pos hc]
      constructor
      · intro z
        cases z
      · rintro ⟨_, h, _⟩
        have := h p List.mem_cons_self
        rcases hc with z | z
        · have := Nat.mod_eq_zero_of_dvd this.2
          omega
        · exact absurd this.1 z
    · rw [if_neg hc]
      have hp : PrimeN p := Classical.byContradiction fun z => hc (.inr z)
      have hd : p ∣ n := Nat.dvd_of_mod_eq_zero (by
        rcases Nat.eq_zero_or_pos (n % p) with z | z
        · exact z
        · exact absurd (.inl z) hc)
      obtain ⟨o1, o2, ⟨k, o3⟩, o4⟩ := out_ok p2 n n (Nat.le_refl n) h1
      rw [procB_iff r _ o1 fun q hq => h2 q (List.mem_cons_of_mem _ hq)]
      generalize outP p n n = n' at *
      have dn : n' ∣ n := ⟨p ^ k, by rw [o3, Nat.mul_comm]⟩
      have split : ∀ q, PrimeN q → (q ∣ n ↔ q = p ∨ q ∣ n') := fun q hq => by
        constructor
        · intro z
          rw [o3] at z
          rcases prime_dvd_nat hq z with w | w
          · exact .inl (prime_eq hq hp (prime_pow_dvd hq w))
          · exact .inr w
        · rintro (z | z)
          · rw [z]; exact hd
          · exact Nat.dvd_trans z dn
      constructor
      · rintro ⟨a, b, c⟩
        refine ⟨List.nodup_cons.mpr ⟨fun z => o2 (b p z).2, a⟩, fun q hq => ?_, fun q hq hqn => ?_⟩
        · rcases List.mem_cons.mp hq with rfl | hq
          · exact ⟨hp, hd⟩
          · exact ⟨(b q hq).1, Nat.dvd_trans (b q hq).2 dn⟩
        · rcases (split q hq).mp hqn with z | z
          · rw [z]; exact List.mem_cons_self
          · exact List.mem_cons_of_mem _ (c q hq z)
      · rintro ⟨a, b, c⟩
        obtain ⟨a1, a2⟩ := List.nodup_cons.mp a
        refine ⟨a2, fun q hq => ?_, fun q hq hqn => ?_⟩
        · obtain ⟨b1, b2⟩ := b q (List.mem_cons_of_mem _ hq)
          refine ⟨b1, ?_⟩
          rcases (split q b1).mp b2 with z | z
          · rw [z] at hq
            exact absurd hq a1
          · exact z
        · rcases List.mem_cons.mp (c q hq (Nat.dvd_trans hqn dn)) with z | z
          · rw [z] at hqn
            exact absurd hqn o2
          · exact z
/-- a rising list of all primes of a number, none of them great -/
def GoodPr (ps : List Int) (n : Int) : Prop := 1 ≤ n ∧ (∀ x ∈ ps, 1 < x ∧ x < 1000000) ∧ ps.Pairwise (· < ·) ∧ ∀ p : Nat, ((p : Int) ∈ ps ↔ PrimeN p ∧ p ∣ n.toNat)
theorem zs_toNat {ps : List Int} (h : ∀ x ∈ ps, 0 ≤ x) : (ps.map Int.toNat).map (fun (n : Nat) => (n : Int)) = ps := by
  rw [List.map_map]
  conv => rhs; rw [← List.map_id ps]
  apply List.map_congr_left
  intro x hx
  exact Int.toNat_of_nonneg (h x hx)
theorem good_iff {L : List Nat} {n : Nat} (h1 : 1 ≤ n) (h2 : ∀ p ∈ L, 2 ≤ p) (h3 : ∀ p ∈ L, p ≤ 1000000) : GoodPr (L.map fun (n : Nat) => (n : Int)) n ↔ L.Pairwise (· ≤ ·) ∧ procB L n = true := by
  rw [procB_iff L n h1 h2]
  have mem : ∀ p : Nat, (p : Int) ∈ L.map (fun (n : Nat) => (n : Int)) ↔ p ∈ L := fun p => by
    rw [List.mem_map]
    constructor
    · rintro ⟨q, hq, e⟩
      have : q = p := by omega
      rw [← this]; exact hq
    · intro hp
      exact ⟨p, hp, rfl⟩
  have up : (L.map fun (n : Nat) => (n : Int)).Pairwise (· < ·) ↔ L.Pairwise (· < ·) := by
    rw [List.pairwise_map]
    constructor
    · exact fun h => h.imp fun {a b} z => by omega
    · exact fun h => h.imp fun {a b} z => by omega
  constructor
  · rintro ⟨_, a, b, c⟩
    have c' : ∀ p, p ∈ L ↔ PrimeN p ∧ p ∣ n := fun p => by
      rw [← mem p, c p]
      simp
    have b' := up.mp b
    exact ⟨b'.imp fun {x y} z => by omega, b'.imp fun {x y} z => by omega, fun p hp => (c' p).mp hp, fun q hq hd => (c' q).mpr ⟨hq, hd⟩⟩
  · rintro ⟨a, b, c, d⟩
    refine ⟨by omega, fun x hx => ?_, up.mpr ?_, fun p => ?_⟩
    · obtain ⟨q, hq, rfl⟩ := List.mem_map.mp hx
      have := h2 q hq
      have := h3 q hq
      have hne : q ≠ 1000000 := by
        rintro rfl
        have := (c _ hq).1.2 2 (by decide)
        omega
      omega
    · have := a.and b
      exact this.imp fun {x y} z => by
        have := z.1
        have := z.2
        omega
    · rw [mem p]
      have e : ((n : Nat) : Int).toNat = n := by simp
      rw [e]
      exact ⟨fun h => c p h, fun h => d p h.1 h.2⟩
end Mt

/-! PP -/
namespace Den
open PySem L2 Mt
local macro_rules | `(tactic| walk_at "den") => `(tactic| (all_goals (try simp only [fnOf, sSeq, sFz, sAsg, sPar, sUnp, sDrop, sRet, sRetN, sIf, sNext, sNever, sPut, sApp, sMod, modAt, mApp, mPut, fzAt, fzAll, vAll, setAll, gN, gT, gSet, wipeT, vOf, bFz, vC, v1, v2, vBin, vNeg, vCmp, vChain, vAnd, vOr, vNot, bT, bAnd, bOr, bNot, vIf, bIx, dIx, O.isDict, vSl, opI, vNd, vCall, aAll, aPl, aNp, aMv, wSeq, wRange1, wRange2, wRange3, wZip, wEnum, bVar, bYes, dBin, dSub, dMod, dFdiv, dPow, dShl, dShr, i2, dNeg, dCmp, c2, dIs, dInt, dAbs, dMax, dMin, O.child, O.fz, O.toD, O.toDs, O.isVal, O.int?, O.bl?, O.v?, O.allFlat, O.allFlats, ob, om, Option.map_some, Option.bind_some, Option.map_none, Option.bind_none, Option.join_some, Option.join_none, List.length_cons, List.length_nil, List.map_cons, List.map_nil, List.replicate, List.cons_append, List.nil_append, List.getElem?_cons_zero, List.getElem?_cons_succ, List.set_cons_zero, List.set_cons_succ, if_true, if_false, Bool.false_eq_true, reduceIte, Nat.reduceAdd, Nat.reduceSub, Nat.reduceEqDiff, Bool.not_true, Bool.not_false, Bool.and_true, Bool.true_and, Bool.and_false, Bool.false_and, List.all_cons, List.all_nil, true_or, or_true, true_and, and_true, O.ty, dIsB, dAll, dAny, dSum, dLen, dList, dTuple, O.top, O.vals?, dSl, dAdd, dMul, ints?_map, ints?_map', bls?_map, bls?_map', toDs_map', vals_map', toDs_ints, vals_map, toDs_vals, List.length_map, dEq_int, dEq_ints, dEq_bl, cut_map, decide_true, decide_false, decide_eq_true_eq, Bool.not_eq_true', kit_ii, kit_ib, kit_ll, kit_tt, allFlats_ints, vals_mapI, Int.cast_ofNat_Int, Int.reduceAdd, Int.reduceSub, Int.reduceMul, Int.reduceNeg, Int.reduceLT, Int.reduceLE, Int.reduceEq, Int.reduceMod, Int.reduceDiv, Int.reducePow, Int.reduceToNat, Nat.reduceMul, Nat.reducePow, Nat.reduceLeDiff, Nat.reduceLT, decide_not, Int.ofNat_one, Int.ofNat_zero, ne_eq, not_true, not_false_iff, Int.reduceNe])))
local macro_rules | `(tactic| walk_at "sd") => `(tactic| first | with_reducible assumption | omega | decide)
local macro_rules | `(tactic| walk_at "toD") => `(tactic| first | with_reducible exact toD_val _ | with_reducible exact toD_ints _ | with_reducible exact toD_mat _ | with_reducible exact toD_wo _ _ | ((with_reducible apply toD_n); walk_at "toDs") | walk_at "leaf")
local macro_rules | `(tactic| walk_at "toDs") => `(tactic| first | with_reducible exact toDs_0 | with_reducible exact toDs_ints _ | with_reducible exact toDs_vals _ | with_reducible exact toDs_map' _ _ | ((with_reducible apply toDs_1); walk_at "toD"; walk_at "toDs"))
local macro_rules | `(tactic| walk_at "leaf") => `(tactic| with_reducible assumption)
local macro_rules | `(tactic| walk_at "op") => `(tactic| first | walk_at "leaf" | with_reducible exact add_e _ _ | with_reducible exact sub_e _ _ | exact mod_e (by walk_at "sd") | exact div_e (by walk_at "sd") (by walk_at "sd") | exact mul_e (by walk_at "sd") | exact mulL_ints _ _ (by walk_at "sd") (by walk_at "sd") | exact cat_ints (xs := _) (ys := _) (by walk_at "top") (by walk_at "top") (by walk_at "sd") | exact pow_e (by walk_at "sd") (by walk_at "sd") | walk_at "leaf")
local macro_rules | `(tactic| walk_at "top") => `(tactic| first | exact top_ints _ | exact top_vints _ | exact rfl)
local macro_rules | `(tactic| walk_at "cmp") => `(tactic| first | with_reducible assumption | with_reducible exact lt_e _ _ | with_reducible exact le_e _ _ | with_reducible exact gt_e _ _ | with_reducible exact ge_e _ _ | with_reducible exact eq_e _ _ | with_reducible exact ne_e _ _ | with_reducible exact is_bl _ _ | with_reducible exact nis_bl _ _ | ((with_reducible apply co_eq); walk_at "toD"; walk_at "toD"; walk_at "deq") | ((with_reducible apply co_ne); walk_at "toD"; walk_at "toD"; walk_at "deq") | walk_at "leaf")
local macro_rules | `(tactic| walk_at "deq") => `(tactic| first | walk_at "leaf" | exact dEq_ints _ _ | with_reducible exact dEq_wheel _ _ _ _ | exact dEq_bl _ _ | exact dEq_int _ _ | walk_at "leaf")
local macro_rules | `(tactic| walk_at "as") => `(tactic| first | with_reducible exact as_0 | ((with_reducible apply as_1); (first | ((with_reducible apply r_pl); walk_at "ev"; walk_at "toD"; exact rfl) | ((with_reducible apply r_np); walk_at "ev"; walk_at "toD") | ((with_reducible apply r_mv); walk_at "ev")); walk_at "as"))
local macro_rules | `(tactic| walk_at "all") => `(tactic| first | with_reducible exact all_0 | ((with_reducible apply all_1); walk_at "ev"; walk_at "all"))
local macro_rules | `(tactic| walk_at "ev") => `(tactic| first
  | with_reducible assumption
  | ((with_reducible apply r_var); walk_at "at")
  | with_reducible exact r_c
  | ((with_reducible apply r_fz); walk_at "ev"; walk_at "toD")
  | ((with_reducible apply r_of); walk_at "ev")
  | ((with_reducible apply e_bin); walk_at "ev"; walk_at "ev"; walk_at "op")
  | ((with_reducible apply r_cmp); walk_at "ev"; walk_at "ev"; walk_at "cmp")
  | ((with_reducible apply e_ix); walk_at "ev"; walk_at "ev"; walk_at "child")
  | ((with_reducible apply r_call); walk_at "as"; walk_at "leaf"; (first | exact .inl rfl | exact .inr ⟨rfl, rfl⟩ | exact .inr ⟨rfl, allFlat_ints _⟩ | exact .inr ⟨rfl, by walk_at "leaf"⟩))
  | ((with_reducible apply r_meth); walk_at "ev"; walk_at "leaf"; walk_at "leaf"; walk_at "leaf"; exact rfl; walk_at "ev")
  | ((with_reducible apply r_fld); walk_at "ev"; walk_at "leaf")
  | ((with_reducible apply r_T); walk_at "ev")
  | ((with_reducible apply r_bnot); walk_at "ev")
  | ((with_reducible apply r_band0); (with_reducible apply r_T); (with_reducible apply r_var); walk_at "at")
  | ((with_reducible apply r_bor1); (with_reducible apply r_T); (with_reducible apply r_var); walk_at "at")
  | ((with_reducible apply r_bor); walk_at "ev"; (intro hk; walk_at "ev"))
  | ((with_reducible apply r_band); walk_at "ev"; (intro hk; walk_at "ev"))
  | ((with_reducible apply r_or); walk_at "ev"; (intro hk; walk_at "ev"))
  | ((with_reducible apply r_and); walk_at "ev"; (intro hk; walk_at "ev"))
  | ((with_reducible apply r_not); walk_at "ev")
  | ((with_reducible apply r_neg); walk_at "ev")
  | ((with_reducible apply r_chain); walk_at "ev"; walk_at "ev"; walk_at "cmp"; (intro hk; walk_at "ev"); (intro hk; walk_at "cmp"))
  | ((with_reducible apply r_sl); walk_at "ev"; (first | with_reducible exact r_opn | (apply r_ops; walk_at "ev")); (first | with_reducible exact r_opn | (apply r_ops; walk_at "ev")); walk_at "leaf")
  | ((with_reducible apply e_nd); walk_at "all"; exact Nat.le_of_ble_eq_true rfl)
  | ((with_reducible apply e_v1); walk_at "ev"; walk_at "un")
  | ((with_reducible apply e_v2); walk_at "ev"; walk_at "ev"; walk_at "leaf")
  | walk_at "leaf")
local macro_rules | `(tactic| walk_at "un") => `(tactic| first | walk_at "leaf" | exact len_ints _ | exact list_ints _ | exact dRev_ints _ | exact dInt_bl _ | walk_at "leaf")
local macro_rules | `(tactic| walk_at "child") => `(tactic| first | walk_at "leaf" | with_reducible exact wheel_m _ _ | with_reducible exact wheel_w _ _ | exact child_ints (j := 0) (by walk_at "sd"))
local macro_rules | `(tactic| walk_at "set") => `(tactic| first | with_reducible exact l_set0 | ((with_reducible apply l_setS); walk_at "set"))
local macro_rules | `(tactic| walk_at "at") => `(tactic| first | with_reducible exact l_at0 | ((with_reducible apply l_atS); walk_at "at"))
local macro_rules | `(tactic| walk_at "fz") => `(tactic| first | with_reducible exact fz_0 | ((with_reducible apply fz_1); walk_at "at"; walk_at "toD"; walk_at "set"; walk_at "fz") | ((with_reducible apply fz_n); walk_at "at"; walk_at "fz"))
local macro_rules | `(tactic| walk_at "fa") => `(tactic| first | with_reducible exact fa_0 | ((with_reducible apply fa_n); walk_at "fa") | ((with_reducible apply fa_s); walk_at "toD"; walk_at "fa") | ((with_reducible apply fa_x); walk_at "fa"))
local macro_rules | `(tactic| walk_at "gt") => `(tactic| first | with_reducible exact gt_0 | ((with_reducible apply gt_1); walk_at "set"; walk_at "gt"))
local macro_rules | `(tactic| walk_at "sa") => `(tactic| first | with_reducible exact sa_0 | ((with_reducible apply sa_1); walk_at "set"; walk_at "sa"))
local macro_rules | `(tactic| walk_at "kt") => `(tactic| first | with_reducible assumption | exact rfl | (focus ((simp only [Bool.or_eq_true, Bool.and_eq_true, Bool.or_eq_false_iff, Bool.and_eq_false_iff, Bool.not_eq_true', Bool.not_eq_false', decide_eq_true_eq, decide_eq_false_iff_not, Bool.not_true, Bool.not_false, Bool.true_or, Bool.or_true, Bool.false_or, Bool.or_false, Bool.true_and, Bool.and_true, Bool.false_and, Bool.and_false, Bool.false_eq_true, Bool.true_eq_false, not_false_iff, true_and, and_true, or_true, true_or, false_or, or_false]) <;> omega)) | (focus (simp only [*, Bool.not_true, Bool.not_false, Bool.true_or, Bool.or_true, Bool.false_or, Bool.or_false, Bool.true_and, Bool.and_true, Bool.false_and, Bool.and_false, decide_true, decide_false]; done)) | walk_at "leaf")
local macro_rules | `(tactic| walk_at "ini") => `(tactic| ((simp only [List.map_cons, List.map_nil, List.cons_append, List.nil_append, List.replicate, Nat.reduceSub]); try exact rfl))
local macro_rules | `(tactic| walk_at "fn") => `(tactic| ((with_reducible apply fn_go); exact rfl; walk_at "ini"))
local macro_rules | `(tactic| walk_at "fnn") => `(tactic| ((with_reducible apply fn_gn); exact rfl; walk_at "ini"))
local macro_rules | `(tactic| walk_at "st") => `(tactic| first
  | with_reducible exact nx_rfl
  | ((with_reducible apply seq_nx); walk_at "st")
  | ((with_reducible apply seq_assoc); walk_at "st")
  | ((with_reducible apply seq_if); walk_at "ev"; first | (refine .inl ⟨?_, ?_⟩; walk_at "kt"; walk_at "st") | (refine .inr ⟨?_, ?_⟩; walk_at "kt"; walk_at "st"))
  | ((with_reducible apply seq_fz); walk_at "fz"; walk_at "st")
  | ((with_reducible apply seq_rt); first | ((with_reducible apply s_ret); walk_at "fa"; walk_at "ev") | ((with_reducible apply s_retN); walk_at "at"))
  | ((with_reducible apply seq_go); walk_at "s1"; walk_at "st"))
local macro_rules | `(tactic| walk_at "s1") => `(tactic| first
  | ((with_reducible apply s_asg); walk_at "ev"; walk_at "set")
  | ((with_reducible apply s_drop); walk_at "ev")
  | ((with_reducible apply s_par); walk_at "all"; walk_at "sa")
  | ((with_reducible apply s_unp); walk_at "ev"; (with_reducible apply gt_t); walk_at "gt")
  | ((with_reducible apply s_app); walk_at "ev"; walk_at "toD"; walk_at "at"; walk_at "sd"; walk_at "set")
  | walk_at "leaf")
noncomputable def W_primes_of_1 : BE := (bT (vCmp .LtE (bFz (vBin .Mult (bVar 2) (bVar 2))) (bVar 0)))
noncomputable def W_primes_of_2 : BE := (bT (vCmp .Eq (bFz (vBin .Mod (bVar 0) (bVar 2))) (bFz (vC (.int 0)))))
noncomputable def W_primes_of_3 : SE := (sSeq (sAsg 0 (vBin .FloorDiv (bVar 0) (bVar 2))) sNext)
noncomputable def W_primes_of_4 : SE := (sSeq (sIf (bT (vCmp .Eq (bFz (vBin .Mod (bVar 0) (bVar 2))) (bFz (vC (.int 0))))) (sSeq (sFz [2] (sApp 1 [] (vOf (bVar 2)))) (sSeq (sWhile W_primes_of_2 W_primes_of_3) sNext)) sNext) (sSeq (sAsg 2 (vBin .Add (bVar 2) (bFz (vC (.int 1))))) sNext))
noncomputable def B_primes_of : SE := (sSeq (sPar [1, 2] [(vNd .lst []), (vC (.int 2))]) (sSeq (sWhile W_primes_of_1 W_primes_of_4) (sSeq (sIf (bT (vCmp .Gt (bVar 0) (bFz (vC (.int 1))))) (sSeq (sFz [0] (sApp 1 [] (vOf (bVar 0)))) sNext) sNext) (sSeq (sRetN 1) sNext))))
noncomputable def F_primes_of : Fn := fnOf 1 3 B_primes_of
noncomputable def B_is_prime : SE := (sSeq (sRet (vOf (vAnd (bFz (vCmp .Gt (bVar 0) (bFz (vC (.int 1))))) (bFz (vCmp .Eq (bFz (vCall F_primes_of [(aPl (bVar 0))])) (bFz (vNd .lst [(vOf (bVar 0))]))))))) sNext)
noncomputable def F_is_prime : Fn := fnOf 1 1 B_is_prime
noncomputable def W_are_primes_of_1 : BE := (bT (vCmp .Eq (bFz (vBin .Mod (bVar 1) (bVar 2))) (bFz (vC (.int 0)))))
noncomputable def W_are_primes_of_2 : SE := (sSeq (sAsg 1 (vBin .FloorDiv (bVar 1) (bVar 2))) sNext)
noncomputable def W_are_primes_of_3 : SE := (sSeq (sIf (bOr (bT (vCmp .Gt (bFz (vBin .Mod (bVar 1) (bVar 2))) (bFz (vC (.int 0))))) (bNot (bT (bFz (vCall F_is_prime [(aPl (bVar 2))]))))) (sSeq (sRet (vC (.bl false))) sNext) sNext) (sSeq (sWhile W_are_primes_of_1 W_are_primes_of_2) sNext))
noncomputable def B_are_primes_of : SE := (sSeq (sFz [0] (sIf (bNot (bT (bFz (v1 dAll (bFz (vLc (wSeq (bVar 0)) [2] (gN 2) bYes (vOf (vAnd (bFz (vCall F_is_whole [(aPl (bVar 2))])) (bFz (vChain .Lt .LtE (bFz (vC (.int 1))) (bVar 2) (vC (.int 1000000)))))))))))) (sSeq (sRet (vC (.bl false))) sNext) sNext)) (sSeq (sFz [0] (sIf (bT (bFz (v1 dAny2 (bFz (vLc (wZip (bVar 0) (bFz (vSl (bVar 0) (some (bFz (vC (.int 1)))) none))) [3, 4] (gT [3, 4]) bYes (vCmp .GtE (bVar 3) (bVar 4))))))) (sSeq (sRet (vC (.bl false))) sNext) sNext)) (sSeq (sFz [0] (sFor (wSeq (bVar 0)) (gN 2) W_are_primes_of_3)) (sSeq (sRet (vCmp .Eq (bVar 1) (bFz (vC (.int 1))))) sNext))))
noncomputable def F_are_primes_of : Fn := fnOf 2 5 B_are_primes_of
abbrev zs (L : List Nat) : List Int := L.map fun (n : Nat) => (n : Int)
theorem nat_small {n : Nat} (h : n ≤ 2 ^ 400) : ((n : Int)).natAbs < 2 ^ 1000 := by
  rw [Int.natAbs_natCast]
  exact Nat.lt_of_le_of_lt h (Nat.pow_lt_pow_right (by decide) (by decide))
theorem mul_nat {a b : Nat} (ha : a ≤ 2 ^ 400) (hb : b ≤ 2 ^ 400) : dBin .Mult (.int (a : Int)) (.int (b : Int)) = some (.int ((a * b : Nat) : Int)) := by
  rw [mul_e (mul_ok (nat_small ha) (nat_small hb)), Int.natCast_mul]
theorem mod_nat {a b : Nat} (hb : 0 < b) : dBin .Mod (.int (a : Int)) (.int (b : Int)) = some (.int ((a % b : Nat) : Int)) := by
  rw [mod_e (by omega), Int.natCast_emod]
theorem log_nat {b : Nat} (h : b ≤ 2 ^ 400) : ((b : Int)).natAbs.log2 < 9000 := by
  have : ((b : Int)).natAbs.log2 < 1000 := PySem.Flt.log2_lt_of (by decide) (nat_small h)
  omega
theorem div_nat {a b : Nat} (hb : 0 < b) (h : b ≤ 2 ^ 400) : dBin .FloorDiv (.int (a : Int)) (.int (b : Int)) = some (.int ((a / b : Nat) : Int)) := by
  rw [div_e (by omega) (log_nat h), Int.natCast_ediv]
theorem add_nat (a b : Nat) : dBin .Add (.int (a : Int)) (.int (b : Int)) = some (.int ((a + b : Nat) : Int)) := by
  rw [add_e, Int.natCast_add]
theorem eq_natc (a b : Nat) : dCmp .Eq (.int (a : Int)) (.int (b : Int)) = some (decide (a = b)) := by rw [eq_e, eq_nat]
theorem le_nat (a b : Nat) : dCmp .LtE (.int (a : Int)) (.int (b : Int)) = some (decide (a ≤ b)) := by
  rw [le_e]
  congr 1
  exact decide_eq_decide.mpr Int.ofNat_le
theorem lt_nat (a b : Nat) : dCmp .Lt (.int (a : Int)) (.int (b : Int)) = some (decide (a < b)) := by
  rw [lt_e]
  congr 1
  exact decide_eq_decide.mpr Int.ofNat_lt
theorem gt_nat (a b : Nat) : dCmp .Gt (.int (a : Int)) (.int (b : Int)) = some (decide (b < a)) := by
  rw [gt_e]
  congr 1
  exact decide_eq_decide.mpr Int.ofNat_lt
theorem small400 {n : Nat} (h : n ≤ 2 ^ 40) : n ≤ 2 ^ 400 := Nat.le_trans h (Nat.pow_le_pow_right (by decide) (by decide))
theorem pr_out {q : Nat} (hq : 2 ≤ q) (q40 : q ≤ 2 ^ 400) (x : Option O) : ∀ (f n : Nat), n ≤ f → sWhile W_primes_of_2 W_primes_of_3 [some (.int (n : Int)), x, some (.int (q : Int))] = some (.nx [some (.int (outP q f n : Int)), x, some (.int (q : Int))]) ∨ n = 0 := by
  intro f
  induction f with
  | zero =>
    intro n hn
    exact .inr (by omega)
  | succ f ih =>
    intro n hn
    by_cases n0 : n = 0
    · exact .inr n0
    left
    have m1 := mod_nat (a := n) (b := q) (by omega)
    have c1 : dCmp .Eq (.int ((n % q : Nat) : Int)) (.int 0) = some (decide (n % q = 0)) := eq_natc (n % q) 0
    have d1 := div_nat (a := n) (b := q) (by omega) q40
    have cnd : W_primes_of_2 [some (.int (n : Int)), x, some (.int (q : Int))] = some (decide (n % q = 0)) := by
      unfold W_primes_of_2
      walk_at "ev"
    unfold outP
    by_cases z : n % q = 0
    · rw [if_pos z]
      have hlt : n / q < n := Nat.div_lt_self (by omega) (by omega)
      have hpos : n / q ≠ 0 := by
        obtain ⟨c, hc⟩ := Nat.dvd_of_mod_eq_zero z
        rw [hc, Nat.mul_div_cancel_left c (by omega)]
        intro w
        rw [w] at hc
        simp at hc
        exact n0 hc
      rcases ih (n / q) (by omega) with w | w
      · refine while_turn (by rw [cnd, decide_eq_true z]) (t2 := [some (.int ((n / q : Nat) : Int)), x, some (.int (q : Int))]) ?_ w
        unfold W_primes_of_3
        walk_at "st"
      · exact absurd w hpos
    · rw [if_neg z]
      exact while_end (by rw [cnd, decide_eq_false z])
theorem zs_app (L : List Nat) (q : Nat) : zs (L ++ [q]) = zs L ++ [(q : Int)] := List.map_append
theorem zs_snoc (L : List Nat) (q : Nat) : O.nd .lst ((zs L).map O.int ++ [.val (D.int (q : Int))]) = .ints (zs (L ++ [q])) := by
  rw [zs_app]
  show _ = O.nd .lst ((zs L ++ [(q : Int)]).map O.int)
  rw [List.map_append]
  rfl
theorem app_zs {i : Nat} {e : VE} {t t' : Tau} {L : List Nat} {q : Nat} (he : e t = some (.int (q : Int))) (hi : t[i]? = some (some (.ints (zs L)))) (hl : L.length < big) (ht : t.set i (some (.ints (zs (L ++ [q])))) = t') : sApp i [] e t = some (.nx t') := by
  rw [← ht, ← zs_snoc]
  exact app_e he (r_var hi) (by rw [List.length_map, List.length_map]; exact hl)
theorem pow_len {a N b : Nat} (h : 2 ^ a ≤ N) (hN : N ≤ 2 ^ b) : a ≤ b := by
  rcases Nat.lt_or_ge b a with z | z
  · have := Nat.pow_lt_pow_right (a := 2) (by decide) z
    omega
  · exact z
theorem pr_go {N : Nat} (hN : N ≤ 2 ^ 40) : ∀ (f q n : Nat) (L : List Nat), Try N q n L → 2 ^ L.length * n ≤ N → n + 2 ≤ q + f → q ≤ N + 2 → ∃ (q' n' : Nat) (L' : List Nat), PrimesL N (if 1 < n' then L' ++ [n'] else L') ∧ L'.length ≤ 40 ∧ sWhile W_primes_of_1 W_primes_of_4 [some (.int (n : Int)), some (.ints (zs L)), some (.int (q : Int))] = some (.nx [some (.int (n' : Int)), some (.ints (zs L')), some (.int (q' : Int))]) := by
  have e40 : (2 : Nat) ^ 40 = 1099511627776 := by decide
  have e400 : (1099511627776 : Nat) + 2 ≤ 2 ^ 400 := Nat.le_trans (show 1099511627776 + 2 ≤ 2 ^ 41 by decide) (Nat.pow_le_pow_right (by decide) (by decide))
  intro f
  induction f with
  | zero =>
    intro q n L t hI hf hq
    have hlen : L.length ≤ 40 := pow_len (Nat.le_trans (Nat.le_mul_of_pos_right _ t.pos) hI) hN
    have hlt : n < q * q := by
      have := t.q2
      calc n < q := by omega
        _ ≤ q * q := Nat.le_mul_of_pos_left q (by omega)
    have m1 := mul_nat (a := q) (b := q) (by omega) (by omega)
    have c1 := le_nat (q * q) n
    refine ⟨q, n, L, try_end t hlt, hlen, while_end ?_⟩
    have : W_primes_of_1 [some (.int (n : Int)), some (.ints (zs L)), some (.int (q : Int))] = some (decide (q * q ≤ n)) := by
      unfold W_primes_of_1
      walk_at "ev"
    rw [this, decide_eq_false (Nat.not_le.mpr hlt)]
  | succ f ih =>
    intro q n L t hI hf hq
    have hlen : L.length ≤ 40 := pow_len (Nat.le_trans (Nat.le_mul_of_pos_right _ t.pos) hI) hN
    have hn : n ≤ N := Nat.le_trans (Nat.le_mul_of_pos_left n (Nat.pow_pos (by decide))) hI
    have q2 := t.q2
    have m1 := mul_nat (a := q) (b := q) (by omega) (by omega)
    have c1 := le_nat (q * q) n
    have cnd : W_primes_of_1 [some (.int (n : Int)), some (.ints (zs L)), some (.int (q : Int))] = some (decide (q * q ≤ n)) := by
      unfold W_primes_of_1
      walk_at "ev"
    by_cases hlt : n < q * q
    · exact ⟨q, n, L, try_end t hlt, hlen, while_end (by rw [cnd, decide_eq_false (Nat.not_le.mpr hlt)])⟩
    · have qn : q ≤ n := Nat.le_trans (show q ≤ q * q from Nat.le_mul_of_pos_left q (by omega)) (Nat.not_lt.mp hlt)
      have mm := mod_nat (a := n) (b := q) (by omega)
      have c2 : dCmp .Eq (.int ((n % q : Nat) : Int)) (.int 0) = some (decide (n % q = 0)) := eq_natc (n % q) 0
      have ad : dBin .Add (.int (q : Int)) (.int 1) = some (.int ((q + 1 : Nat) : Int)) := add_nat q 1
      by_cases z : n % q = 0
      · have hd := Nat.dvd_of_mod_eq_zero z
        obtain ⟨o1, o2, ⟨k, o3⟩, o4⟩ := out_ok q2 n n (Nat.le_refl n) t.pos
        rcases pr_out q2 (by omega) (some (.ints (zs (L ++ [q])))) n n (Nat.le_refl n) with w | w
        · generalize outP q n n = n' at *
          have k0 : k ≠ 0 := by
            intro e
            subst e
            simp at o3
            rw [o3] at hd
            exact o2 hd
          have n2 : 2 * n' ≤ n := by
            have e1 : q ^ k = q ^ (k - 1) * q := by rw [← Nat.pow_succ, show (k - 1).succ = k by omega]
            have e2 : 2 ≤ q ^ k := by
              rw [e1]
              exact Nat.le_trans q2 (Nat.le_mul_of_pos_left q (Nat.pow_pos (by omega)))
            rw [o3]
            exact Nat.mul_le_mul_right n' e2
          have hI2 : 2 ^ (L ++ [q]).length * n' ≤ N := by
            rw [List.length_append, List.length_singleton, Nat.pow_succ, Nat.mul_assoc]
            exact Nat.le_trans (Nat.mul_le_mul_left _ n2) hI
          obtain ⟨q', n2', L', r1, r2, r3⟩ := ih (q + 1) n' (L ++ [q]) (try_hit t hd o1 o2 ⟨k, o3⟩) hI2 (by omega) (by omega)
          refine ⟨q', n2', L', r1, r2, while_turn (by rw [cnd, decide_eq_true (Nat.not_lt.mp hlt)]) (t2 := [some (.int (n' : Int)), some (.ints (zs (L ++ [q]))), some (.int ((q + 1 : Nat) : Int))]) ?_ r3⟩
          have ap : sApp 1 [] (vOf (bVar 2)) [some (.int (n : Int)), some (.ints (zs L)), some (.int (q : Int))] = some (.nx [some (.int (n : Int)), some (.ints (zs (L ++ [q]))), some (.int (q : Int))]) := app_zs rfl rfl (by show _ < 100000; omega) rfl
          unfold W_primes_of_4
          walk_at "st"
        · have := t.pos
          omega
      · obtain ⟨q', n', L', r1, r2, r3⟩ := ih (q + 1) n L (try_miss t fun w => z (Nat.mod_eq_zero_of_dvd w)) hI (by omega) (by omega)
        refine ⟨q', n', L', r1, r2, while_turn (by rw [cnd, decide_eq_true (Nat.not_lt.mp hlt)]) (t2 := [some (.int (n : Int)), some (.ints (zs L)), some (.int ((q + 1 : Nat) : Int))]) ?_ r3⟩
        unfold W_primes_of_4
        walk_at "st"
theorem primes_of_ok {N : Nat} (h1 : 1 ≤ N) (hN : N ≤ 2 ^ 40) : F_primes_of [.int (N : Int)] = some (.ints (zs (pl N))) ∧ (pl N).length ≤ 41 := by
  obtain ⟨q', n', L', r1, r2, r3⟩ := pr_go hN N 2 N [] (try_start h1) (by simp) (by omega) (by omega)
  have r3 : sWhile W_primes_of_1 W_primes_of_4 [some (.int (N : Int)), some (.nd .lst []), some (.int 2)] = _ := r3
  have c1 : dCmp .Gt (.int (n' : Int)) (.int 1) = some (decide (1 < n')) := gt_nat n' 1
  have e := r1.one (pl_ok h1)
  by_cases n1 : 1 < n'
  · rw [if_pos n1] at e
    rw [← e]
    have ap : sApp 1 [] (vOf (bVar 0)) [some (.int (n' : Int)), some (.ints (zs L')), some (.int (q' : Int))] = some (.nx [some (.int (n' : Int)), some (.ints (zs (L' ++ [n']))), some (.int (q' : Int))]) := app_zs rfl rfl (by show _ < 100000; omega) rfl
    refine ⟨?_, by rw [List.length_append, List.length_singleton]; omega⟩
    unfold F_primes_of B_primes_of
    walk_at "fn"
    walk_at "st"
  · rw [if_neg n1] at e
    rw [← e]
    refine ⟨?_, by omega⟩
    unfold F_primes_of B_primes_of
    walk_at "fn"
    walk_at "st"
/-- whether a whole number is a prime -/
def PrimeZ (x : Int) : Prop := 2 ≤ x ∧ PrimeN x.toNat
theorem pl_prime {n : Nat} (h : 2 ≤ n) : pl n = [n] ↔ PrimeN n := by
  have hp := pl_ok (N := n) (by omega)
  constructor
  · intro e
    have := (hp.mem n).mp (by rw [e]; exact List.mem_singleton.mpr rfl)
    exact this.1
  · intro hn
    refine hp.one ⟨by simp, fun p => ?_⟩
    rw [List.mem_singleton]
    constructor
    · rintro rfl
      exact ⟨hn, Nat.dvd_refl p⟩
    · rintro ⟨a, b⟩
      exact prime_eq a hn b
open Classical in
theorem is_prime_ok {x : Int} (hx : x ≤ 2 ^ 40) : F_is_prime [.int x] = some (.bl (decide (PrimeZ x))) := by
  have c1 := gt_e x 1
  unfold F_is_prime B_is_prime
  by_cases h : 1 < x
  · have hn : ((x.toNat : Nat) : Int) = x := Int.toNat_of_nonneg (by omega)
    have p1 := (primes_of_ok (N := x.toNat) (by omega) (by omega)).1
    rw [hn] at p1
    have e : decide (PrimeZ x) = (decide (1 < x) && decide (zs (pl x.toNat) = [x])) := by
      rw [decide_eq_true h, Bool.true_and]
      apply decide_eq_decide.mpr
      have q := pl_prime (n := x.toNat) (by omega)
      constructor
      · intro hz
        rw [q.mpr hz.2]
        show [((x.toNat : Nat) : Int)] = [x]
        rw [hn]
      · intro hz
        refine ⟨by omega, q.mp ?_⟩
        have hl : (pl x.toNat).length = 1 := by
          have := congrArg List.length hz
          rw [List.length_map] at this
          exact this
        match hL : pl x.toNat, hl, hz with
        | [y], _, hz =>
          have : ((y : Nat) : Int) = x := by
            have z2 : [((y : Nat) : Int)] = [x] := hz
            exact (List.cons.inj z2).1
          congr 1
          omega
    rw [e]
    have c2 : dEq (.ints (zs (pl x.toNat))) (.nd .lst [D.int x]) = some (decide (zs (pl x.toNat) = [x])) := dEq_ints _ [x]
    walk_at "fn"
    walk_at "st"
  · have e : decide (PrimeZ x) = (decide (1 < x) && false) := by
      rw [Bool.and_false]
      exact decide_eq_false fun hz => h (by have := hz.1; omega)
    rw [e]
    have hk : decide (1 < x) = false := decide_eq_false h
    refine fn_rt rfl (seq_rt (s_ret (t' := [some (.int x)]) rfl (r_of (r_and (k := decide (1 < x)) (k' := false) (by walk_at "ev") (fun z => ?_)))))
    rw [hk] at z
    cases z
theorem lcz {α : Type} {w : WE} {own : List Nat} {g : GE} {e : VE} {t : Tau} (xs : List α) (φ ψ : α → D) (hw : w t = some (xs.map φ)) (hl : xs.length ≤ big) (h : ∀ x ∈ xs, ∃ t1 o, g (φ x) (wipeT t own) = some t1 ∧ e t1 = some o ∧ o.toD = ψ x) :
    bFz (vLc w own g bYes e) t = some (.val (.nd .lst (xs.map ψ))) := by
  refine r_fz (vLc_map (xs := xs) (φ := φ) (ψ := ψ) hw hl fun x hx => ?_) (by rw [toD_nd, toDs_map'])
  obtain ⟨t1, o, h1, h2, h3⟩ := h x hx
  rw [el h1 h2, h3]
theorem all_bl {α : Type} (xs : List α) (f : α → Bool) : dAll (.val (.nd .lst (xs.map fun x => D.bl (f x)))) = some (.bl (xs.all f)) := by
  unfold dAll
  show (bls? (xs.map fun x => D.bl (f x))).map _ = _
  rw [bls?_map', om, List.all_map]
  rfl
theorem any_bl {α : Type} (xs : List α) (f : α → Bool) : dAny2 (.val (.nd .lst (xs.map fun x => D.bl (f x)))) = some (.bl (xs.any f)) := by
  unfold dAny2 dAny
  show ((bls? (xs.map fun x => D.bl (f x))).map _).or _ = _
  rw [bls?_map', om, List.any_map]
  rfl
theorem for_cons {g : GE} {b : SE} {d : D} {ds : List D} {t t1 t2 : Tau} {r : Option Out} (hg : g d t = some t1) (hb : b t1 = some (.nx t2)) (hr : forIn' g b ds t2 = r) : forIn' g b (d :: ds) t = r := by
  unfold forIn'
  rw [hg, ob, hb, ob]
  exact hr
theorem for_ret {g : GE} {b : SE} {d : D} {ds : List D} {t t1 : Tau} {o : O} (hg : g d t = some t1) (hb : b t1 = some (.rt o)) : forIn' g b (d :: ds) t = some (.rt o) := by
  unfold forIn'
  rw [hg, ob, hb, ob]
theorem ap_out {q : Nat} (hq : 2 ≤ q) (q40 : q ≤ 2 ^ 400) (x a b : Option O) : ∀ (f n : Nat), n ≤ f → 1 ≤ n → sWhile W_are_primes_of_1 W_are_primes_of_2 [x, some (.int (n : Int)), some (.int (q : Int)), a, b] = some (.nx [x, some (.int (outP q f n : Int)), some (.int (q : Int)), a, b]) := by
  intro f
  induction f with
  | zero =>
    intro n hn h1
    omega
  | succ f ih =>
    intro n hn n0
    have m1 := mod_nat (a := n) (b := q) (by omega)
    have c1 : dCmp .Eq (.int ((n % q : Nat) : Int)) (.int 0) = some (decide (n % q = 0)) := eq_natc (n % q) 0
    have d1 := div_nat (a := n) (b := q) (by omega) q40
    have cnd : W_are_primes_of_1 [x, some (.int (n : Int)), some (.int (q : Int)), a, b] = some (decide (n % q = 0)) := by
      unfold W_are_primes_of_1
      walk_at "ev"
    unfold outP
    by_cases z : n % q = 0
    · rw [if_pos z]
      have hlt : n / q < n := Nat.div_lt_self (by omega) (by omega)
      have hpos : 1 ≤ n / q := by
        obtain ⟨c, hc⟩ := Nat.dvd_of_mod_eq_zero z
        rw [hc, Nat.mul_div_cancel_left c (by omega)]
        rcases Nat.eq_zero_or_pos c with w | w
        · rw [w] at hc
          simp at hc
          omega
        · exact w
      refine while_turn (by rw [cnd, decide_eq_true z]) (t2 := [x, some (.int ((n / q : Nat) : Int)), some (.int (q : Int)), a, b]) ?_ (ih (n / q) (by omega) hpos)
      unfold W_are_primes_of_2
      walk_at "st"
    · rw [if_neg z]
      exact while_end (by rw [cnd, decide_eq_false z])
theorem primeZ_nat (p : Nat) : PrimeZ (p : Int) ↔ PrimeN p := by
  unfold PrimeZ
  rw [Int.toNat_natCast]
  exact ⟨fun h => h.2, fun h => ⟨by have := h.1; omega, h⟩⟩
open Classical in
theorem ap_go (ps : O) (hps : ps.toD = d0) (a b : Option O) (ha : a = none) (hb : b = none) : ∀ (L : List Nat) (n : Nat) (x : Option O), 1 ≤ n → (∀ p ∈ L, 2 ≤ p ∧ p ≤ 1000000) → (procB L n = false ∧ forIn' (gN 2) W_are_primes_of_3 (L.map fun (p : Nat) => D.int (p : Int)) [some ps, some (.int (n : Int)), x, a, b] = some (.rt (.bl false))) ∨ ∃ (n' : Nat) (x' : Option O), procB L n = decide (n' = 1) ∧ forIn' (gN 2) W_are_primes_of_3 (L.map fun (p : Nat) => D.int (p : Int)) [some ps, some (.int (n : Int)), x, a, b] = some (.nx [some ps, some (.int (n' : Int)), x', a, b])
  | [], n, x, h1, h2 => .inr ⟨n, x, by unfold procB; rfl, rfl⟩
  | p :: L, n, x, h1, h2 => by
    subst ha hb
    obtain ⟨p2, p6⟩ := h2 p List.mem_cons_self
    have e40 : (1000000 : Nat) ≤ 2 ^ 40 := by decide
    have p400 : p ≤ 2 ^ 400 := small400 (by omega)
    have m1 := mod_nat (a := n) (b := p) (by omega)
    have c1 : dCmp .Gt (.int ((n % p : Nat) : Int)) (.int 0) = some (decide (0 < n % p)) := gt_nat (n % p) 0
    have i1 := is_prime_ok (x := (p : Int)) (by omega)
    have i2 : decide (PrimeZ (p : Int)) = decide (PrimeN p) := decide_eq_decide.mpr (primeZ_nat p)
    rw [i2] at i1
    have g1 : gN 2 (D.int (p : Int)) [some ps, some (.int (n : Int)), x, none, none] = some [some ps, some (.int (n : Int)), some (.int (p : Int)), none, none] := rfl
    have o1 := (out_ok p2 n n (Nat.le_refl n) h1).1
    have w1 := ap_out p2 p400 (some ps) none none n n (Nat.le_refl n) h1
    unfold procB
    by_cases hc : n % p > 0 ∨ ¬ PrimeN p
    · left
      rw [if_pos hc]
      refine ⟨rfl, for_ret g1 ?_⟩
      have hk : (decide (0 < n % p) || !decide (PrimeN p)) = true := by
        rcases hc with z | z
        · rw [decide_eq_true z]; rfl
        · rw [decide_eq_false z, Bool.not_false, Bool.or_true]
      unfold W_are_primes_of_3
      walk_at "st"
    · rw [if_neg hc]
      have hk : (decide (0 < n % p) || !decide (PrimeN p)) = false := by
        rw [Bool.or_eq_false_iff]
        refine ⟨decide_eq_false fun z => hc (.inl z), ?_⟩
        rw [decide_eq_true (Classical.byContradiction fun z => hc (.inr z)), Bool.not_true]
      have hb : W_are_primes_of_3 [some ps, some (.int (n : Int)), some (.int (p : Int)), none, none] = some (.nx [some ps, some (.int (outP p n n : Int)), some (.int (p : Int)), none, none]) := by
        unfold W_are_primes_of_3
        walk_at "st"
      rcases ap_go ps hps none none rfl rfl L (outP p n n) (some (.int (p : Int))) o1 (fun q hq => h2 q (List.mem_cons_of_mem _ hq)) with ⟨z1, z2⟩ | ⟨n', x', z1, z2⟩
      · exact .inl ⟨z1, for_cons g1 hb z2⟩
      · exact .inr ⟨n', x', z1, for_cons g1 hb z2⟩
theorem up_adj : ∀ (ps : List Int), ((ps.zip (ps.drop 1)).any fun p => decide (p.1 ≥ p.2)) = false ↔ ps.Pairwise (· < ·)
  | [] => by simp
  | [x] => by simp
  | x :: y :: r => by
    have ih := up_adj (y :: r)
    show (decide (x ≥ y) || ((y :: r).zip ((y :: r).drop 1)).any fun p => decide (p.1 ≥ p.2)) = false ↔ _
    rw [Bool.or_eq_false_iff, ih, decide_eq_false_iff_not, List.pairwise_cons (a := x)]
    constructor
    · rintro ⟨a, b⟩
      refine ⟨fun z hz => ?_, b⟩
      rcases List.mem_cons.mp hz with rfl | hz
      · omega
      · have := (List.pairwise_cons.mp b).1 z hz
        omega
    · rintro ⟨a, b⟩
      have := a y List.mem_cons_self
      exact ⟨by omega, b⟩
open Classical in
theorem are_primes_of_ok {ps : List Int} {n : Int} (hl : ps.length ≤ big) (hn : 1 ≤ n) : F_are_primes_of [.val (.ints ps), .int n] = some (.bl (decide (GoodPr ps n))) := by
  obtain ⟨N, rfl⟩ : ∃ N : Nat, n = (N : Int) := ⟨n.toNat, by omega⟩
  have e1 : bFz (vLc (wSeq (bVar 0)) [2] (gN 2) bYes (vOf (vAnd (bFz (vCall F_is_whole [(aPl (bVar 2))])) (bFz (vChain .Lt .LtE (bFz (vC (.int 1))) (bVar 2) (vC (.int 1000000))))))) [some (.val (.ints ps)), some (.int (N : Int)), none, none, none] = some (.val (.nd .lst (ps.map fun x => D.bl (true && (decide (1 < x) && decide (x ≤ 1000000)))))) := by
    refine lcz ps D.int _ rfl hl fun x hx => ⟨[some (.val (.ints ps)), some (.int (N : Int)), some (.int x), none, none], .bl (true && (decide (1 < x) && decide (x ≤ 1000000))), rfl, ?_, rfl⟩
    have hw := is_whole_int x
    walk_at "ev"
  have e2 := all_bl ps fun x => true && (decide (1 < x) && decide (x ≤ 1000000))
  have s1 : dSl (O.val (.ints ps)) (some 1) none = some (.ints (ps.drop 1)) := by
    unfold dSl
    show (some (O.nd .lst ((cut (ps.map D.int) (some 1) none).map O.val)) : Option O) = _
    rw [cut1, ← List.map_drop, List.map_map]
    rfl
  have e3 : bFz (vLc (wZip (bVar 0) (bFz (vSl (bVar 0) (some (bFz (vC (.int 1)))) none))) [3, 4] (gT [3, 4]) bYes (vCmp .GtE (bVar 3) (bVar 4))) [some (.val (.ints ps)), some (.int (N : Int)), none, none, none] = some (.val (.nd .lst ((ps.zip (ps.drop 1)).map fun p => D.bl (decide (p.1 ≥ p.2))))) := by
    refine lcz (ps.zip (ps.drop 1)) (fun p => D.nd .tup [D.int p.1, D.int p.2]) _ ?_ ?_ fun p hp => ⟨[some (.val (.ints ps)), some (.int (N : Int)), none, some (.int p.1), some (.int p.2)], .bl (decide (p.1 ≥ p.2)), rfl, ?_, rfl⟩
    · have hs : bFz (vSl (bVar 0) (some (bFz (vC (.int 1)))) none) [some (.val (.ints ps)), some (.int (N : Int)), none, none, none] = some (.val (.ints (ps.drop 1))) := by walk_at "ev"
      unfold wZip
      rw [hs]
      show some (((ps.map D.int).zip ((ps.drop 1).map D.int)).map fun p => D.nd .tup [p.1, p.2]) = _
      rw [zip_ints]
    · rw [List.length_zip]
      omega
    · walk_at "ev"
  have e4 := any_bl (ps.zip (ps.drop 1)) fun p => decide (p.1 ≥ p.2)
  unfold F_are_primes_of B_are_primes_of
  generalize hk1 : (ps.all fun x => true && (decide (1 < x) && decide (x ≤ 1000000))) = k1 at e2
  generalize hk2 : ((ps.zip (ps.drop 1)).any fun p => decide (p.1 ≥ p.2)) = k2 at e4
  cases k1 with
  | false =>
    have hg : decide (GoodPr ps (N : Int)) = false := decide_eq_false fun hg => by
      have : (ps.all fun x => true && (decide (1 < x) && decide (x ≤ 1000000))) = true := by
        rw [List.all_eq_true]
        intro x hx
        have := hg.2.1 x hx
        simp only [Bool.true_and, Bool.and_eq_true, decide_eq_true_eq]
        omega
      rw [hk1] at this
      cases this
    rw [hg]
    walk_at "fn"
    walk_at "st"
  | true =>
    have r1 : ∀ x ∈ ps, 1 < x ∧ x ≤ 1000000 := fun x hx => by
      have := List.all_eq_true.mp hk1 x hx
      simpa only [Bool.true_and, Bool.and_eq_true, decide_eq_true_eq] using this
    have hz : zs (ps.map Int.toNat) = ps := zs_toNat fun x hx => by have := r1 x hx; omega
    have r2 : ∀ p ∈ ps.map Int.toNat, 2 ≤ p ∧ p ≤ 1000000 := fun p hp => by
      obtain ⟨x, hx, rfl⟩ := List.mem_map.mp hp
      have := r1 x hx
      omega
    have gi := good_iff (L := ps.map Int.toNat) (n := N) (by omega) (fun p hp => (r2 p hp).1) fun p hp => (r2 p hp).2
    have hz' : (ps.map Int.toNat).map (fun (n : Nat) => (n : Int)) = ps := hz
    rw [hz'] at gi
    cases k2 with
    | true =>
      have hg : decide (GoodPr ps (N : Int)) = false := decide_eq_false fun hg => by
        rw [(up_adj ps).mpr hg.2.2.1] at hk2
        cases hk2
      rw [hg]
      walk_at "fn"
      walk_at "st"
    | false =>
      have up := (up_adj ps).mp hk2
      have up' : (ps.map Int.toNat).Pairwise (· ≤ ·) := by
        rw [List.pairwise_map]
        exact up.imp fun {a b} h => by omega
      have hg : decide (GoodPr ps (N : Int)) = procB (ps.map Int.toNat) N := by
        rw [Bool.eq_iff_iff, decide_eq_true_eq, gi]
        exact ⟨fun h => h.2, fun h => ⟨up', h⟩⟩
      have hd : (ps.map Int.toNat).map (fun (p : Nat) => D.int (p : Int)) = ps.map D.int := by
        conv => rhs; rw [← hz']
        rw [List.map_map, List.map_map, List.map_map]
        rfl
      have w0 : wSeq (bVar 0) [some (.val (.ints ps)), some (.int (N : Int)), none, none, none] = some (ps.map D.int) := rfl
      rcases ap_go (.val (.ints ps)) rfl none none rfl rfl (ps.map Int.toNat) N none (by omega) r2 with ⟨z1, z2⟩ | ⟨n', x', z1, z2⟩
      · rw [hg, z1]
        rw [hd] at z2
        have z3 := f_go w0 z2
        refine fn_go rfl (t := [some (.val (.ints ps)), some (.int (N : Int)), none, none, none]) rfl ?_
        refine seq_fz (t' := [some (.val (.ints ps)), some (.int (N : Int)), none, none, none]) rfl (seq_if (k := !true) (by walk_at "ev") (.inr ⟨rfl, ?_⟩))
        refine seq_nx (seq_fz (t' := [some (.val (.ints ps)), some (.int (N : Int)), none, none, none]) rfl (seq_if (k := false) (by walk_at "ev") (.inr ⟨rfl, ?_⟩)))
        exact seq_nx (seq_fz (t' := [some (.val (.ints ps)), some (.int (N : Int)), none, none, none]) rfl (seq_rt z3))
      · rw [hg, z1]
        rw [hd] at z2
        have z3 := f_go w0 z2
        have c1 : dCmp .Eq (.int (n' : Int)) (.int 1) = some (decide (n' = 1)) := eq_natc n' 1
        walk_at "fn"
        walk_at "st"
end Den

/-! MC: courses (plain). -/
namespace Mt
/-! ### tails and rounds -/
/-- x goes on from each thing in one way -/
def Det {α : Type} (x : Nat → α) : Prop := ∀ i j k, x i = x j → x (i + k) = x (j + k)
structure Crs {α : Type} (x : Nat → α) (T L : Nat) : Prop where
  pos : 1 ≤ L
  iff : ∀ i j, i < j → (x i = x j ↔ T ≤ i ∧ L ∣ j - i)
theorem det_itr {α : Type} (f : α → α) (s : α) : Det fun k => itr f k s := fun i j k h => by
  show itr f (i + k) s = itr f (j + k) s
  have h : itr f i s = itr f j s := h
  rw [Nat.add_comm i, Nat.add_comm j, itr_add, itr_add, h]
theorem per_mul {α : Type} {x : Nat → α} (hx : Det x) {i L : Nat} (h : x (i + L) = x i) : ∀ c, x (i + L * c) = x i
  | 0 => rfl
  | c + 1 => by
    have := hx _ _ (L * c) h
    rw [Nat.mul_succ, Nat.add_comm (L * c), ← Nat.add_assoc, this, per_mul hx h c]
theorem per_up {α : Type} {x : Nat → α} (hx : Det x) {i j L : Nat} (hij : i ≤ j) (h : x (i + L) = x i) : x (j + L) = x j := by
  have := hx _ _ (j - i) h
  rw [show i + L + (j - i) = j + L by omega, show i + (j - i) = j by omega] at this
  exact this
theorem per_iff {α : Type} {x : Nat → α} (hx : Det x) {T L : Nat} (hL : 1 ≤ L) (h : x (T + L) = x T) (hl : ∀ j, 1 ≤ j → j < L → x (T + j) ≠ x T) (d : Nat) : x (T + d) = x T ↔ L ∣ d := by
  constructor
  · intro hd
    rcases Nat.eq_zero_or_pos (d % L) with z | z
    · exact Nat.dvd_of_mod_eq_zero z
    · exfalso
      refine hl (d % L) z (Nat.mod_lt _ hL) ?_
      have e : x (T + L * (d / L)) = x T := per_mul hx h _
      have := hx _ _ (d % L) e
      rw [Nat.add_assoc, Nat.div_add_mod] at this
      rw [← this, hd]
  · rintro ⟨c, rfl⟩
    exact per_mul hx h c
theorem crs_mk {α : Type} {x : Nat → α} (hx : Det x) {T T' L : Nat} (hL : 1 ≤ L) (hT : T ≤ T') (h : ∀ d, x (T' + d) = x T' ↔ L ∣ d) (h1 : x (T + L) = x T) (h2 : T = 0 ∨ x (T - 1 + L) ≠ x (T - 1)) : Crs x T L := by
  refine ⟨hL, fun i j hij => ⟨fun e => ?_, fun ⟨a, b⟩ => ?_⟩⟩
  · have hd : L ∣ j - i := by
      rw [← h]
      have e1 : x (T' + L * i) = x T' := per_mul hx ((h L).mpr (Nat.dvd_refl L)) i
      have e2 := hx _ _ (T' + L * i - i) e.symm
      have hi : i ≤ T' + L * i := by
        have := Nat.le_mul_of_pos_left i hL
        omega
      rw [show i + (T' + L * i - i) = T' + L * i by omega, show j + (T' + L * i - i) = T' + L * i + (j - i) by omega] at e2
      have e3 := hx _ _ (j - i) e1
      rw [← e3, e2, e1]
    refine ⟨?_, hd⟩
    rcases Nat.lt_or_ge i T with z | z
    · exfalso
      rcases h2 with h2 | h2
      · omega
      · apply h2
        obtain ⟨c, hc⟩ := hd
        have e2 := hx _ _ (T - 1 - i) e
        rw [show i + (T - 1 - i) = T - 1 by omega, show j + (T - 1 - i) = T - 1 + (j - i) by omega, hc] at e2
        have c1 : 1 ≤ c := by
          rcases Nat.eq_zero_or_pos c with w | w
          · rw [w] at hc; omega
          · exact w
        have e3 : x (T - 1 + L + L * (c - 1)) = x (T - 1 + L) := per_mul hx (per_up hx (i := T) (by omega) h1) (c - 1)
        rw [← e3, e2, Nat.add_assoc, show L + L * (c - 1) = L * c by
          obtain ⟨c', rfl⟩ : ∃ c', c = c' + 1 := ⟨c - 1, by omega⟩
          rw [Nat.add_sub_cancel, Nat.mul_succ, Nat.add_comm]]
    · exact z
  · obtain ⟨c, hc⟩ := b
    have := per_mul hx (per_up hx a h1) c
    rw [← hc, show i + (j - i) = j by omega] at this
    exact this.symm
theorem Crs.one {α : Type} {x : Nat → α} {T L T' L' : Nat} (h : Crs x T L) (h' : Crs x T' L') : T = T' ∧ L = L' := by
  have p := h.pos
  have p' := h'.pos
  have a := (h'.iff T (T + L) (by omega)).mp ((h.iff T (T + L) (by omega)).mpr ⟨Nat.le_refl T, by rw [Nat.add_sub_cancel_left]; exact Nat.dvd_refl L⟩)
  have b := (h.iff T' (T' + L') (by omega)).mp ((h'.iff T' (T' + L') (by omega)).mpr ⟨Nat.le_refl T', by rw [Nat.add_sub_cancel_left]; exact Nat.dvd_refl L'⟩)
  rw [Nat.add_sub_cancel_left] at a b
  exact ⟨by omega, Nat.dvd_antisymm b.2 a.2⟩
/-- the paper of a course -/
theorem crs_shows {α : Type} {x : Nat → α} (hx : Det x) {T L : Nat} {ps : List Nat} (hL : 1 ≤ L) (hp : ∀ p, p ∈ ps ↔ PrimeN p ∧ p ∣ L) : Crs x T L ↔ x (T + L) = x T ∧ (∀ p ∈ ps, x (T + L / p) ≠ x T) ∧ (T = 0 ∨ x (T - 1 + L) ≠ x (T - 1)) := by
  constructor
  · intro h
    refine ⟨?_, fun p hp' e => ?_, ?_⟩
    · exact ((h.iff T (T + L) (by omega)).mpr ⟨Nat.le_refl T, by rw [Nat.add_sub_cancel_left]; exact Nat.dvd_refl L⟩).symm
    · obtain ⟨p1, p2⟩ := (hp p).mp hp'
      have q1 : 1 ≤ L / p := Nat.div_pos (Nat.le_of_dvd hL p2) (by have := p1.1; omega)
      have q2 : L / p < L := Nat.div_lt_self hL p1.1
      have := ((h.iff T (T + L / p) (by omega)).mp e.symm).2
      rw [Nat.add_sub_cancel_left] at this
      have := Nat.le_of_dvd q1 this
      omega
    · rcases Nat.eq_zero_or_pos T with z | z
      · exact .inl z
      · right
        intro e
        have := ((h.iff (T - 1) (T - 1 + L) (by omega)).mp e.symm).1
        omega
  · rintro ⟨a, b, c⟩
    obtain ⟨l, l1, ⟨l2, l3⟩, l4⟩ := least (P := fun d => 1 ≤ d ∧ x (T + d) = x T) (n := L) ⟨hL, a⟩
    have li := per_iff hx l2 l3 fun j j1 j2 e => l4 j j2 ⟨j1, e⟩
    have hl : l ∣ L := (li L).mp a
    have e : l = L := by
      obtain ⟨c, hc⟩ := hl
      rcases Nat.lt_or_ge 1 c with z | z
      · exfalso
        obtain ⟨q, q1, ⟨c', rfl⟩⟩ := has_prime c z
        have qL : q ∣ L := ⟨l * c', by rw [hc]; exact Nat.mul_left_comm l q c'⟩
        have := b q ((hp q).mpr ⟨q1, qL⟩)
        apply this
        rw [li]
        refine ⟨c', ?_⟩
        rw [hc, Nat.mul_left_comm, Nat.mul_div_cancel_left _ (by have := q1.1; omega)]
      · rcases Nat.eq_zero_or_pos c with w | w
        · rw [w] at hc; omega
        · have : c = 1 := by omega
          rw [hc, this, Nat.mul_one]
    rw [e] at li
    exact crs_mk hx hL (Nat.le_refl T) li a c
/-! ### a length made less, prime by prime -/
/-- as long as p can be taken out -/
def lessP (l p : Nat) : Nat → Nat → Nat
  | 0, n => n
  | f + 1, n => if n % p = 0 ∧ n / p % l = 0 then lessP l p f (n / p) else n
theorem lessP_ok {l p : Nat} (hl : 1 ≤ l) (hp : 2 ≤ p) : ∀ (f n : Nat), n ≤ f → 1 ≤ n → l ∣ n → 1 ≤ lessP l p f n ∧ l ∣ lessP l p f n ∧ lessP l p f n ∣ n ∧ ¬ l * p ∣ lessP l p f n
  | 0, n, h, h1, _ => by omega
  | f + 1, n, h, h1, hd => by
    unfold lessP
    by_cases z : n % p = 0 ∧ n / p % l = 0
    · rw [if_pos z]
      obtain ⟨c, hc⟩ := Nat.dvd_of_mod_eq_zero z.1
      have e : n / p = c := by rw [hc, Nat.mul_div_cancel_left c (by omega)]
      have c1 : 1 ≤ c := by
        rcases Nat.eq_zero_or_pos c with w | w
        · rw [w] at hc; omega
        · exact w
      have hlt : n / p < n := Nat.div_lt_self (by omega) (by omega)
      obtain ⟨a1, a2, a3, a4⟩ := lessP_ok hl hp f (n / p) (by omega) (by omega) (Nat.dvd_of_mod_eq_zero z.2)
      exact ⟨a1, a2, Nat.dvd_trans a3 ⟨p, by rw [e, hc, Nat.mul_comm]⟩, a4⟩
    · rw [if_neg z]
      refine ⟨h1, hd, Nat.dvd_refl n, ?_⟩
      rintro ⟨c, hc⟩
      apply z
      have e : n = p * (l * c) := by rw [hc, Nat.mul_comm l p, Nat.mul_assoc]
      refine ⟨by rw [e, Nat.mul_mod_right], ?_⟩
      rw [e, Nat.mul_div_cancel_left _ (by omega), Nat.mul_mod_right]
def lessL (l : Nat) : List Nat → Nat → Nat
  | [], n => n
  | p :: r, n => lessL l r (lessP l p n n)
theorem lessL_ok {l : Nat} (hl : 1 ≤ l) : ∀ (L : List Nat) (n : Nat), (∀ p ∈ L, 2 ≤ p) → 1 ≤ n → l ∣ n → 1 ≤ lessL l L n ∧ l ∣ lessL l L n ∧ lessL l L n ∣ n ∧ ∀ p ∈ L, ¬ l * p ∣ lessL l L n
  | [], n, _, h1, hd => ⟨h1, hd, Nat.dvd_refl n, fun p hp => by cases hp⟩
  | p :: r, n, h, h1, hd => by
    unfold lessL
    obtain ⟨a1, a2, a3, a4⟩ := lessP_ok hl (h p List.mem_cons_self) n n (Nat.le_refl n) h1 hd
    obtain ⟨b1, b2, b3, b4⟩ := lessL_ok hl r (lessP l p n n) (fun q hq => h q (List.mem_cons_of_mem _ hq)) a1 a2
    refine ⟨b1, b2, Nat.dvd_trans b3 a3, fun q hq => ?_⟩
    rcases List.mem_cons.mp hq with rfl | hq
    · exact fun z => a4 (Nat.dvd_trans z b3)
    · exact b4 q hq
theorem lessL_is {l : Nat} (hl : 1 ≤ l) {L : List Nat} {n : Nat} (h2 : ∀ p ∈ L, 2 ≤ p) (h1 : 1 ≤ n) (hd : l ∣ n) (ha : ∀ p, PrimeN p → p ∣ n → p ∈ L) : lessL l L n = l := by
  obtain ⟨b1, ⟨c, b2⟩, b3, b4⟩ := lessL_ok hl L n h2 h1 hd
  rcases Nat.lt_or_ge 1 c with z | z
  · exfalso
    obtain ⟨q, q1, ⟨c', rfl⟩⟩ := has_prime c z
    refine b4 q (ha q q1 (Nat.dvd_trans ?_ b3)) ⟨c', by rw [b2, Nat.mul_assoc]⟩
    exact ⟨l * c', by rw [b2, Nat.mul_left_comm]⟩
  · rcases Nat.eq_zero_or_pos c with w | w
    · rw [w, Nat.mul_zero] at b2; omega
    · have : c = 1 := by omega
      rw [b2, this, Nat.mul_one]
/-! ### how many primes -/
def prodN : List Nat → Nat
  | [] => 1
  | p :: r => p * prodN r
theorem prodN_dvd : ∀ {L : List Nat} {N : Nat}, L.Nodup → (∀ p ∈ L, PrimeN p ∧ p ∣ N) → prodN L ∣ N
  | [], N, _, _ => Nat.one_dvd N
  | p :: r, N, hn, h => by
    obtain ⟨n1, n2⟩ := List.nodup_cons.mp hn
    obtain ⟨hp, ⟨c, rfl⟩⟩ := h p List.mem_cons_self
    have : prodN r ∣ c := prodN_dvd n2 fun q hq => by
      obtain ⟨q1, q2⟩ := h q (List.mem_cons_of_mem _ hq)
      refine ⟨q1, ?_⟩
      rcases prime_dvd_nat q1 q2 with z | z
      · have := prime_eq q1 hp z
        rw [this] at hq
        exact absurd hq n1
      · exact z
    exact Nat.mul_dvd_mul_left p this
theorem prodN_pos : ∀ {L : List Nat}, (∀ p ∈ L, PrimeN p) → 1 ≤ prodN L
  | [], _ => Nat.le_refl 1
  | p :: r, h => Nat.mul_pos (by have := (h p List.mem_cons_self).1; omega) (prodN_pos fun q hq => h q (List.mem_cons_of_mem _ hq))
theorem prodN_3 : ∀ {L : List Nat}, (∀ p ∈ L, 3 ≤ p) → 3 ^ L.length ≤ prodN L
  | [], _ => Nat.le_refl 1
  | p :: r, h => by
    have a := h p List.mem_cons_self
    have b := prodN_3 (L := r) fun q hq => h q (List.mem_cons_of_mem _ hq)
    show 3 ^ (r.length + 1) ≤ p * prodN r
    rw [Nat.pow_succ, Nat.mul_comm]
    exact Nat.mul_le_mul a b
theorem prodN_1 : ∀ {L : List Nat}, L.Nodup → (∀ p ∈ L, PrimeN p) → 3 ^ L.length ≤ 3 * prodN L
  | [], _, _ => by decide
  | p :: r, hn, h => by
    obtain ⟨n1, n2⟩ := List.nodup_cons.mp hn
    have hp := (h p List.mem_cons_self).1
    show 3 ^ (r.length + 1) ≤ 3 * (p * prodN r)
    rw [Nat.pow_succ, Nat.mul_comm]
    by_cases z : p = 2
    · have b := prodN_3 (L := r) fun q hq => by
        have := (h q (List.mem_cons_of_mem _ hq)).1
        have hne : q ≠ 2 := fun w => n1 (by rw [z, ← w]; exact hq)
        omega
      have := Nat.le_mul_of_pos_left (prodN r) (show 0 < p by omega)
      exact Nat.mul_le_mul_left 3 (Nat.le_trans b this)
    · have b := prodN_1 n2 fun q hq => h q (List.mem_cons_of_mem _ hq)
      have : 3 * prodN r ≤ p * prodN r := Nat.mul_le_mul_right _ (by omega)
      exact Nat.mul_le_mul_left 3 (Nat.le_trans b this)
/-- the pieces of a prime -/
def pcs (p : Nat) : List Nat := [p, p - 1, p + 1, p * p + p + 1, p * p + 1]
def pcP : List Nat → Nat
  | [] => 1
  | p :: r => prodN (pcs p) * pcP r
theorem pcs_le {p : Nat} (h : 2 ≤ p) : 1 ≤ prodN (pcs p) ∧ prodN (pcs p) ≤ p ^ 9 := by
  show 1 ≤ p * ((p - 1) * ((p + 1) * ((p * p + p + 1) * ((p * p + 1) * 1)))) ∧ p * ((p - 1) * ((p + 1) * ((p * p + p + 1) * ((p * p + 1) * 1)))) ≤ p ^ 9
  obtain ⟨q, rfl⟩ : ∃ q, p = q + 2 := ⟨p - 2, by omega⟩
  constructor
  · refine Nat.mul_pos (by omega) (Nat.mul_pos (by omega) (Nat.mul_pos (by omega) (Nat.mul_pos (by omega) (Nat.mul_pos (by omega) (by omega)))))
  · generalize hp : q + 2 = p at *
    have h1 : (p - 1) * (p + 1) ≤ p * p := by
      obtain ⟨r, rfl⟩ : ∃ r, p = r + 1 := ⟨p - 1, by omega⟩
      rw [Nat.add_sub_cancel]
      have : r * (r + 1 + 1) = r * r + 2 * r := by grind
      have : (r + 1) * (r + 1) = r * r + 2 * r + 1 := by grind
      omega
    have p2 : 2 * p ≤ p * p := Nat.mul_le_mul_right p h
    have h2 : p * p + p + 1 ≤ p * (p * p) := by
      have : 2 * (p * p) ≤ p * (p * p) := Nat.mul_le_mul_right _ h
      omega
    have h3 : p * p + 1 ≤ p * (p * p) := by omega
    calc p * ((p - 1) * ((p + 1) * ((p * p + p + 1) * ((p * p + 1) * 1)))) = p * (((p - 1) * (p + 1)) * ((p * p + p + 1) * (p * p + 1))) := by grind
      _ ≤ p * ((p * p) * ((p * (p * p)) * (p * (p * p)))) := Nat.mul_le_mul_left p (Nat.mul_le_mul h1 (Nat.mul_le_mul h2 h3))
      _ = p ^ 9 := by grind
theorem pcP_le : ∀ {L : List Nat}, (∀ p ∈ L, 2 ≤ p) → 1 ≤ pcP L ∧ pcP L ≤ prodN L ^ 9
  | [], _ => ⟨Nat.le_refl 1, by decide⟩
  | p :: r, h => by
    obtain ⟨a1, a2⟩ := pcs_le (h p List.mem_cons_self)
    obtain ⟨b1, b2⟩ := pcP_le (L := r) fun q hq => h q (List.mem_cons_of_mem _ hq)
    refine ⟨Nat.mul_pos a1 b1, ?_⟩
    show prodN (pcs p) * pcP r ≤ (p * prodN r) ^ 9
    rw [Nat.mul_pow]
    exact Nat.mul_le_mul a2 b2
theorem prodN_mem : ∀ {L : List Nat} {x : Nat}, x ∈ L → x ∣ prodN L
  | p :: r, x, h => by
    rcases List.mem_cons.mp h with rfl | h
    · exact ⟨prodN r, rfl⟩
    · exact Nat.dvd_trans (prodN_mem h) ⟨p, Nat.mul_comm _ _⟩
theorem pcP_mem : ∀ {L : List Nat} {p : Nat}, p ∈ L → prodN (pcs p) ∣ pcP L
  | q :: r, p, h => by
    rcases List.mem_cons.mp h with rfl | h
    · exact ⟨pcP r, rfl⟩
    · exact Nat.dvd_trans (pcP_mem h) ⟨prodN (pcs q), Nat.mul_comm _ _⟩
/-- few primes go into the pieces of a modulus' primes -/
theorem few {m : Nat} (h1 : 1 ≤ m) (h2 : m ≤ 1000) {K : List Nat} (hn : K.Nodup) (h : ∀ q ∈ K, PrimeN q ∧ q ∣ pcP (pl m)) : K.length < 64 := by
  have hp := pl_ok h1
  have hm : prodN (pl m) ∣ m := prodN_dvd (hp.up.imp fun {a b} z => by omega) fun p hp' => (hp.mem p).mp hp'
  have a := pcP_le (L := pl m) fun p hp' => ((hp.mem p).mp hp').1.1
  have b := Nat.le_of_dvd a.1 (prodN_dvd hn h)
  have c := prodN_1 hn fun q hq => (h q hq).1
  have d : prodN (pl m) ^ 9 ≤ 1000 ^ 9 := Nat.pow_le_pow_left (Nat.le_trans (Nat.le_of_dvd h1 hm) h2) 9
  rcases Nat.lt_or_ge K.length 64 with z | z
  · exact z
  · exfalso
    have e : 3 ^ 64 ≤ 3 ^ K.length := Nat.pow_le_pow_right (by decide) z
    have f : 3 * 1000 ^ 9 < 3 ^ 64 := by decide
    omega
end Mt

/-! MD: a number into which each round's length goes (plain). -/
namespace Mt
theorem cast_dvd {m : Nat} {d : Int} : (m : Int) ∣ d ↔ m ∣ d.natAbs := by
  rw [← Int.natAbs_dvd_natAbs, Int.natAbs_natCast]
theorem all_pows {m : Nat} (hm : 1 ≤ m) {d : Int} (h : ∀ p, PrimeN p → p ∣ m → ∃ v, ¬ p ^ (v + 1) ∣ m ∧ ((p ^ v : Nat) : Int) ∣ d) : (m : Int) ∣ d := by
  rw [cast_dvd]
  obtain ⟨c, hc⟩ := Nat.gcd_dvd_left m d.natAbs
  have g0 : 1 ≤ Nat.gcd m d.natAbs := Nat.gcd_pos_of_pos_left _ hm
  rcases Nat.lt_or_ge 1 c with z | z
  · exfalso
    obtain ⟨p, hp, hpc⟩ := has_prime c z
    obtain ⟨v, v1, v2⟩ := h p hp (by rw [hc]; exact Nat.dvd_trans hpc ⟨_, Nat.mul_comm _ _⟩)
    rw [cast_dvd] at v2
    have go : ∀ w, p ^ w ∣ Nat.gcd m d.natAbs := by
      intro w
      induction w with
      | zero => exact Nat.one_dvd _
      | succ w ih =>
        have hm' : p ^ (w + 1) ∣ m := by
          rw [hc, Nat.pow_succ]
          exact Nat.mul_dvd_mul ih hpc
        have hw : w + 1 ≤ v := by
          rcases Nat.lt_or_ge v (w + 1) with y | y
          · exact absurd (Nat.dvd_trans (Nat.pow_dvd_pow p y) hm') v1
          · exact y
        exact Nat.dvd_gcd hm' (Nat.dvd_trans (Nat.pow_dvd_pow p hw) v2)
    exact v1 (Nat.dvd_trans (go (v + 1)) (Nat.gcd_dvd_left _ _))
  · rcases Nat.eq_zero_or_pos c with w | w
    · rw [w] at hc; omega
    · have : c = 1 := by omega
      rw [this, Nat.mul_one] at hc
      rw [hc]
      exact Nat.gcd_dvd_right _ _
theorem pow1_cop {p i k : Nat} (hp : 2 ≤ p) (hi : 1 ≤ i) : Nat.Coprime (p ^ i - 1) (p ^ k) := by
  have h1 : 1 ≤ p ^ i := Nat.pow_pos (by omega)
  have a : Nat.Coprime (p ^ i - 1) (p ^ i) := by
    have : Nat.Coprime (p ^ i - 1) (p ^ i - 1 + 1) := by
      unfold Nat.Coprime
      simp
    rwa [Nat.sub_add_cancel h1] at this
  have b : p ∣ p ^ i := ⟨p ^ (i - 1), by rw [Nat.mul_comm, ← Nat.pow_succ]; congr 1; omega⟩
  exact Nat.Coprime.pow_right k (Nat.Coprime.coprime_dvd_right b a)
theorem pow_bound {p e t n M : Nat} (hp : PrimeN p) (hn : n ≤ 4) (ht : n ≤ p ^ t) (h1 : p ^ (e + t) ∣ M) (h2 : ∀ i, 1 ≤ i → i ≤ n → p ^ i - 1 ∣ M) {c : List Int} (hc : c.length = n) {s : Nat → Int} (hs : Zr (p ^ (e + 1)) (mon c s)) (k : Nat) :
    ((p ^ (e + 1) : Nat) : Int) ∣ s (k + n * (e + 1) + M) - s (k + n * (e + 1)) := by
  obtain ⟨u, rfl⟩ := h1
  have hu : ∀ i, 1 ≤ i → i ≤ n → p ^ i - 1 ∣ u := fun i i1 i2 => (pow1_cop hp.1 i1).dvd_of_dvd_mul_left (h2 i i1 i2)
  have base : ∀ s : Nat → Int, Zr p (mon c s) → ∀ k, (p : Int) ∣ s (k + n + u * p ^ t) - s (k + n) := fun s hs k => by
    exact by_prime_round hp hn hc ht hu hs k
  have := by_power (n := n) hp base e s hs k
  rw [show u * p ^ t * p ^ e = p ^ (e + t) * u by rw [Nat.mul_assoc, ← Nat.pow_add, Nat.mul_comm, Nat.add_comm t e]] at this
  exact this
theorem zr_wheel {m : Nat} (hm : 0 < m) {ws s : List Int} (h1 : 1 ≤ ws.length) (hs : Ok (m : Int) ws.length s) : Zr m (mon (ws.map (-1 * ·)) (sq m ws s)) := fun k => by
  unfold mon
  rw [op_lmul, op_ev, List.length_map]
  have := sq_next (m := (m : Int)) (by omega) h1 hs k
  rw [this]
  have e := Int.emod_add_mul_ediv (ev (sq (m : Int) ws s) ws k) (m : Int)
  refine ⟨-(ev (sq (m : Int) ws s) ws k / (m : Int)), ?_⟩
  grind
/-- what a modulus' prime wants of the multiple and the tail -/
def Wants (m n p M T : Nat) : Prop := ∃ e, ¬ p ^ (e + 2) ∣ m ∧ p ^ (e + 1) ∣ m ∧ n * (e + 1) ≤ T ∧ (∃ t, n ≤ p ^ t ∧ p ^ (e + t) ∣ M) ∧ ∀ i, 1 ≤ i → i ≤ n → p ^ i - 1 ∣ M
theorem Wants.more {m n p M T M' T' : Nat} (h : Wants m n p M T) (hM : M ∣ M') (hT : T ≤ T') : Wants m n p M' T' := by
  obtain ⟨e, a, a', b, ⟨t, c, d⟩, f⟩ := h
  exact ⟨e, a, a', by omega, ⟨t, c, Nat.dvd_trans d hM⟩, fun i i1 i2 => Nat.dvd_trans (f i i1 i2) hM⟩
theorem zr_sub_dvd {q m : Nat} {s : Nat → Int} (h : q ∣ m) (hs : Zr m s) : Zr q s := fun k => Int.dvd_trans (Int.natCast_dvd_natCast.mpr h) (hs k)
theorem wants_round {m M T : Nat} (hm : 1 ≤ m) {ws s : List Int} (h1 : 1 ≤ ws.length) (h4 : ws.length ≤ 4) (hs : Ok (m : Int) ws.length s) (h : ∀ p, PrimeN p → p ∣ m → Wants m ws.length p M T) : itr (stp m ws) (T + M) s = itr (stp m ws) T s := by
  have z := zr_wheel hm h1 hs
  have key : ∀ k, (m : Int) ∣ sq m ws s (k + T + M) - sq m ws s (k + T) := fun k => by
    refine all_pows hm fun p hp hd => ?_
    obtain ⟨e, a, a', b, ⟨t, c, d⟩, f⟩ := h p hp hd
    refine ⟨e + 1, a, ?_⟩
    have := pow_bound hp h4 c d f (c := ws.map (-1 * ·)) (by rw [List.length_map]) (zr_sub_dvd a' z) (k + T - ws.length * (e + 1))
    rw [show k + T - ws.length * (e + 1) + ws.length * (e + 1) = k + T by omega] at this
    exact this
  rw [itr_sq (m := (m : Int)) (by omega) h1 hs, itr_sq (m := (m : Int)) (by omega) h1 hs]
  apply List.map_congr_left
  intro j _
  have k1 := key j
  rw [show j + T + M = T + M + j by omega, show j + T = T + j by omega] at k1
  have r1 := sq_rng (m := (m : Int)) (by omega) h1 hs (T + M + j)
  have r2 := sq_rng (m := (m : Int)) (by omega) h1 hs (T + j)
  have := Int.emod_emod_of_dvd
  obtain ⟨c, hc⟩ := k1
  have : c = 0 := by
    rcases Int.lt_trichotomy c 0 with w | w | w
    · have : (m : Int) * c ≤ (m : Int) * (-1) := Int.mul_le_mul_of_nonneg_left (by omega) (by omega)
      omega
    · exact w
    · have : (m : Int) * 1 ≤ (m : Int) * c := Int.mul_le_mul_of_nonneg_left (by omega) (by omega)
      omega
  rw [this, Int.mul_zero] at hc
  omega
/-! ### the primes of the multiple -/
theorem prime_pieces {p q i n : Nat} (hp : 2 ≤ p) (hq : PrimeN q) (h1 : 1 ≤ i) (hi : i ≤ n) (hn : n ≤ 4) (hd : q ∣ p ^ i - 1) : ∃ x ∈ (pcs p).take (n + 1), q ∣ x := by
  obtain ⟨r, rfl⟩ : ∃ r, p = r + 1 := ⟨p - 1, by omega⟩
  have m1 : 1 ≤ n → r ∈ (pcs (r + 1)).take (n + 1) := fun h => by
    obtain ⟨k, rfl⟩ : ∃ k, n = k + 1 := ⟨n - 1, by omega⟩
    show r ∈ (r + 1) :: (r + 1 - 1) :: _
    simp
  have m2 : 2 ≤ n → r + 1 + 1 ∈ (pcs (r + 1)).take (n + 1) := fun h => by
    obtain ⟨k, rfl⟩ : ∃ k, n = k + 2 := ⟨n - 2, by omega⟩
    show r + 1 + 1 ∈ (r + 1) :: (r + 1 - 1) :: (r + 1 + 1) :: _
    simp
  have m3 : 3 ≤ n → (r + 1) * (r + 1) + (r + 1) + 1 ∈ (pcs (r + 1)).take (n + 1) := fun h => by
    obtain ⟨k, rfl⟩ : ∃ k, n = k + 3 := ⟨n - 3, by omega⟩
    show _ ∈ (r + 1) :: (r + 1 - 1) :: (r + 1 + 1) :: ((r + 1) * (r + 1) + (r + 1) + 1) :: _
    simp
  have m4 : 4 ≤ n → (r + 1) * (r + 1) + 1 ∈ (pcs (r + 1)).take (n + 1) := fun h => by
    obtain rfl : n = 4 := by omega
    show _ ∈ [(r + 1), (r + 1 - 1), (r + 1 + 1), ((r + 1) * (r + 1) + (r + 1) + 1), ((r + 1) * (r + 1) + 1)]
    simp
  have c : i = 1 ∨ i = 2 ∨ i = 3 ∨ i = 4 := by omega
  rcases c with rfl | rfl | rfl | rfl
  · rw [Nat.pow_one, Nat.add_sub_cancel] at hd
    exact ⟨r, m1 hi, hd⟩
  · rw [show (r + 1) ^ 2 - 1 = r * (r + 1 + 1) by
      have : (r + 1) ^ 2 = r * (r + 1 + 1) + 1 := by grind
      omega] at hd
    rcases prime_dvd_nat hq hd with z | z
    · exact ⟨_, m1 (by omega), z⟩
    · exact ⟨_, m2 hi, z⟩
  · rw [show (r + 1) ^ 3 - 1 = r * ((r + 1) * (r + 1) + (r + 1) + 1) by
      have : (r + 1) ^ 3 = r * ((r + 1) * (r + 1) + (r + 1) + 1) + 1 := by grind
      omega] at hd
    rcases prime_dvd_nat hq hd with z | z
    · exact ⟨_, m1 (by omega), z⟩
    · exact ⟨_, m3 hi, z⟩
  · rw [show (r + 1) ^ 4 - 1 = r * (r + 1 + 1) * ((r + 1) * (r + 1) + 1) by
      have : (r + 1) ^ 4 = r * (r + 1 + 1) * ((r + 1) * (r + 1) + 1) + 1 := by grind
      omega] at hd
    rcases prime_dvd_nat hq hd with z | z
    · rcases prime_dvd_nat hq z with z | z
      · exact ⟨_, m1 (by omega), z⟩
      · exact ⟨_, m2 (by omega), z⟩
    · exact ⟨_, m4 hi, z⟩
theorem prime_lcm {q a b : Nat} (hq : PrimeN q) (h : q ∣ a / Nat.gcd a b * b) : q ∣ a ∨ q ∣ b := by
  rcases prime_dvd_nat hq h with z | z
  · exact .inl (Nat.dvd_trans z (Nat.div_dvd_of_dvd (Nat.gcd_dvd_left a b)))
  · exact .inr z
theorem lcm_l (a b : Nat) : a ∣ a / Nat.gcd a b * b := by
  obtain ⟨c, hc⟩ := Nat.gcd_dvd_right a b
  obtain ⟨d, hd⟩ := Nat.gcd_dvd_left a b
  rcases Nat.eq_zero_or_pos (Nat.gcd a b) with z | z
  · rw [z] at hc
    rw [hc, Nat.zero_mul, Nat.mul_zero]
    exact Nat.dvd_zero a
  · refine ⟨c, ?_⟩
    have e : a / Nat.gcd a b = d := by
      conv => lhs; lhs; rw [hd]
      exact Nat.mul_div_cancel_left d z
    rw [e]
    conv => lhs; rw [hc]
    conv => rhs; rw [hd]
    grind
theorem lcm_r (a b : Nat) : b ∣ a / Nat.gcd a b * b := ⟨_, Nat.mul_comm _ _⟩
theorem lcm_le (a b : Nat) : a / Nat.gcd a b * b ≤ a * b := Nat.mul_le_mul_right b (Nat.div_le_self _ _)
theorem lcm_pos {a b : Nat} (ha : 1 ≤ a) (hb : 1 ≤ b) : 1 ≤ a / Nat.gcd a b * b := Nat.mul_pos (Nat.div_pos (Nat.le_of_dvd ha (Nat.gcd_dvd_left a b)) (Nat.gcd_pos_of_pos_left _ ha)) hb
end Mt

/-! PC -/
namespace Den
open PySem L2 Mt
local macro_rules | `(tactic| walk_at "den") => `(tactic| (all_goals (try simp only [fnOf, sSeq, sFz, sAsg, sPar, sUnp, sDrop, sRet, sRetN, sIf, sNext, sNever, sPut, sApp, sMod, modAt, mApp, mPut, fzAt, fzAll, vAll, setAll, gN, gT, gSet, wipeT, vOf, bFz, vC, v1, v2, vBin, vNeg, vCmp, vChain, vAnd, vOr, vNot, bT, bAnd, bOr, bNot, vIf, bIx, dIx, O.isDict, vSl, opI, vNd, vCall, aAll, aPl, aNp, aMv, wSeq, wRange1, wRange2, wRange3, wZip, wEnum, bVar, bYes, dBin, dSub, dMod, dFdiv, dPow, dShl, dShr, i2, dNeg, dCmp, c2, dIs, dInt, dAbs, dMax, dMin, O.child, O.fz, O.toD, O.toDs, O.isVal, O.int?, O.bl?, O.v?, O.allFlat, O.allFlats, ob, om, Option.map_some, Option.bind_some, Option.map_none, Option.bind_none, Option.join_some, Option.join_none, List.length_cons, List.length_nil, List.map_cons, List.map_nil, List.replicate, List.cons_append, List.nil_append, List.getElem?_cons_zero, List.getElem?_cons_succ, List.set_cons_zero, List.set_cons_succ, if_true, if_false, Bool.false_eq_true, reduceIte, Nat.reduceAdd, Nat.reduceSub, Nat.reduceEqDiff, Bool.not_true, Bool.not_false, Bool.and_true, Bool.true_and, Bool.and_false, Bool.false_and, List.all_cons, List.all_nil, true_or, or_true, true_and, and_true, O.ty, dIsB, dAll, dAny, dSum, dLen, dList, dTuple, O.top, O.vals?, dSl, dAdd, dMul, ints?_map, ints?_map', bls?_map, bls?_map', toDs_map', vals_map', toDs_ints, vals_map, toDs_vals, List.length_map, dEq_int, dEq_ints, dEq_bl, cut_map, decide_true, decide_false, decide_eq_true_eq, Bool.not_eq_true', kit_ii, kit_ib, kit_ll, kit_tt, allFlats_ints, vals_mapI, Int.cast_ofNat_Int, Int.reduceAdd, Int.reduceSub, Int.reduceMul, Int.reduceNeg, Int.reduceLT, Int.reduceLE, Int.reduceEq, Int.reduceMod, Int.reduceDiv, Int.reducePow, Int.reduceToNat, Nat.reduceMul, Nat.reducePow, Nat.reduceLeDiff, Nat.reduceLT, decide_not, Int.ofNat_one, Int.ofNat_zero, ne_eq, not_true, not_false_iff, Int.reduceNe])))
local macro_rules | `(tactic| walk_at "sd") => `(tactic| first | with_reducible assumption | omega | decide)
local macro_rules | `(tactic| walk_at "toD") => `(tactic| first | with_reducible exact toD_val _ | with_reducible exact toD_ints _ | with_reducible exact toD_mat _ | with_reducible exact toD_wo _ _ | ((with_reducible apply toD_n); walk_at "toDs") | walk_at "leaf")
local macro_rules | `(tactic| walk_at "toDs") => `(tactic| first | with_reducible exact toDs_0 | with_reducible exact toDs_ints _ | with_reducible exact toDs_vals _ | with_reducible exact toDs_map' _ _ | ((with_reducible apply toDs_1); walk_at "toD"; walk_at "toDs"))
local macro_rules | `(tactic| walk_at "leaf") => `(tactic| with_reducible assumption)
local macro_rules | `(tactic| walk_at "op") => `(tactic| first | walk_at "leaf" | with_reducible exact add_e _ _ | with_reducible exact sub_e _ _ | exact mod_e (by walk_at "sd") | exact div_e (by walk_at "sd") (by walk_at "sd") | exact mul_e (by walk_at "sd") | exact mulL_ints _ _ (by walk_at "sd") (by walk_at "sd") | exact cat_ints (xs := _) (ys := _) (by walk_at "top") (by walk_at "top") (by walk_at "sd") | exact pow_e (by walk_at "sd") (by walk_at "sd") | walk_at "leaf")
local macro_rules | `(tactic| walk_at "top") => `(tactic| first | exact top_ints _ | exact top_vints _ | exact rfl)
local macro_rules | `(tactic| walk_at "cmp") => `(tactic| first | with_reducible assumption | with_reducible exact lt_e _ _ | with_reducible exact le_e _ _ | with_reducible exact gt_e _ _ | with_reducible exact ge_e _ _ | with_reducible exact eq_e _ _ | with_reducible exact ne_e _ _ | with_reducible exact is_bl _ _ | with_reducible exact nis_bl _ _ | ((with_reducible apply co_eq); walk_at "toD"; walk_at "toD"; walk_at "deq") | ((with_reducible apply co_ne); walk_at "toD"; walk_at "toD"; walk_at "deq") | walk_at "leaf")
local macro_rules | `(tactic| walk_at "deq") => `(tactic| first | walk_at "leaf" | exact dEq_ints _ _ | with_reducible exact dEq_wheel _ _ _ _ | exact dEq_bl _ _ | exact dEq_int _ _ | walk_at "leaf")
local macro_rules | `(tactic| walk_at "as") => `(tactic| first | with_reducible exact as_0 | ((with_reducible apply as_1); (first | ((with_reducible apply r_pl); walk_at "ev"; walk_at "toD"; exact rfl) | ((with_reducible apply r_np); walk_at "ev"; walk_at "toD") | ((with_reducible apply r_mv); walk_at "ev")); walk_at "as"))
local macro_rules | `(tactic| walk_at "all") => `(tactic| first | with_reducible exact all_0 | ((with_reducible apply all_1); walk_at "ev"; walk_at "all"))
local macro_rules | `(tactic| walk_at "ev") => `(tactic| first
  | with_reducible assumption
  | ((with_reducible apply r_var); walk_at "at")
  | with_reducible exact r_c
  | ((with_reducible apply r_fz); walk_at "ev"; walk_at "toD")
  | ((with_reducible apply r_of); walk_at "ev")
  | ((with_reducible apply e_bin); walk_at "ev"; walk_at "ev"; walk_at "op")
  | ((with_reducible apply r_cmp); walk_at "ev"; walk_at "ev"; walk_at "cmp")
  | ((with_reducible apply e_ix); walk_at "ev"; walk_at "ev"; walk_at "child")
  | ((with_reducible apply r_call); walk_at "as"; walk_at "leaf"; (first | exact .inl rfl | exact .inr ⟨rfl, rfl⟩ | exact .inr ⟨rfl, allFlat_ints _⟩ | exact .inr ⟨rfl, by walk_at "leaf"⟩))
  | ((with_reducible apply r_meth); walk_at "ev"; walk_at "leaf"; walk_at "leaf"; walk_at "leaf"; exact rfl; walk_at "ev")
  | ((with_reducible apply r_fld); walk_at "ev"; walk_at "leaf")
  | ((with_reducible apply r_T); walk_at "ev")
  | ((with_reducible apply r_bnot); walk_at "ev")
  | ((with_reducible apply r_band0); (with_reducible apply r_T); (with_reducible apply r_var); walk_at "at")
  | ((with_reducible apply r_bor1); (with_reducible apply r_T); (with_reducible apply r_var); walk_at "at")
  | ((with_reducible apply r_bor); walk_at "ev"; (intro hk; walk_at "ev"))
  | ((with_reducible apply r_band); walk_at "ev"; (intro hk; walk_at "ev"))
  | ((with_reducible apply r_or); walk_at "ev"; (intro hk; walk_at "ev"))
  | ((with_reducible apply r_and); walk_at "ev"; (intro hk; walk_at "ev"))
  | ((with_reducible apply r_not); walk_at "ev")
  | ((with_reducible apply r_neg); walk_at "ev")
  | ((with_reducible apply r_chain); walk_at "ev"; walk_at "ev"; walk_at "cmp"; (intro hk; walk_at "ev"); (intro hk; walk_at "cmp"))
  | ((with_reducible apply r_sl); walk_at "ev"; (first | with_reducible exact r_opn | (apply r_ops; walk_at "ev")); (first | with_reducible exact r_opn | (apply r_ops; walk_at "ev")); walk_at "leaf")
  | ((with_reducible apply e_nd); walk_at "all"; exact Nat.le_of_ble_eq_true rfl)
  | ((with_reducible apply e_v1); walk_at "ev"; walk_at "un")
  | ((with_reducible apply e_v2); walk_at "ev"; walk_at "ev"; walk_at "leaf")
  | walk_at "leaf")
local macro_rules | `(tactic| walk_at "un") => `(tactic| first | walk_at "leaf" | exact len_ints _ | exact list_ints _ | exact dRev_ints _ | exact dInt_bl _ | walk_at "leaf")
local macro_rules | `(tactic| walk_at "child") => `(tactic| first | walk_at "leaf" | with_reducible exact wheel_m _ _ | with_reducible exact wheel_w _ _ | exact child_ints (j := 0) (by walk_at "sd"))
local macro_rules | `(tactic| walk_at "set") => `(tactic| first | with_reducible exact l_set0 | ((with_reducible apply l_setS); walk_at "set"))
local macro_rules | `(tactic| walk_at "at") => `(tactic| first | with_reducible exact l_at0 | ((with_reducible apply l_atS); walk_at "at"))
local macro_rules | `(tactic| walk_at "fz") => `(tactic| first | with_reducible exact fz_0 | ((with_reducible apply fz_1); walk_at "at"; walk_at "toD"; walk_at "set"; walk_at "fz") | ((with_reducible apply fz_n); walk_at "at"; walk_at "fz"))
local macro_rules | `(tactic| walk_at "fa") => `(tactic| first | with_reducible exact fa_0 | ((with_reducible apply fa_n); walk_at "fa") | ((with_reducible apply fa_s); walk_at "toD"; walk_at "fa") | ((with_reducible apply fa_x); walk_at "fa"))
local macro_rules | `(tactic| walk_at "gt") => `(tactic| first | with_reducible exact gt_0 | ((with_reducible apply gt_1); walk_at "set"; walk_at "gt"))
local macro_rules | `(tactic| walk_at "sa") => `(tactic| first | with_reducible exact sa_0 | ((with_reducible apply sa_1); walk_at "set"; walk_at "sa"))
local macro_rules | `(tactic| walk_at "kt") => `(tactic| first | with_reducible assumption | exact rfl | (focus ((simp only [Bool.or_eq_true, Bool.and_eq_true, Bool.or_eq_false_iff, Bool.and_eq_false_iff, Bool.not_eq_true', Bool.not_eq_false', decide_eq_true_eq, decide_eq_false_iff_not, Bool.not_true, Bool.not_false, Bool.true_or, Bool.or_true, Bool.false_or, Bool.or_false, Bool.true_and, Bool.and_true, Bool.false_and, Bool.and_false, Bool.false_eq_true, Bool.true_eq_false, not_false_iff, true_and, and_true, or_true, true_or, false_or, or_false]) <;> omega)) | (focus (simp only [*, Bool.not_true, Bool.not_false, Bool.true_or, Bool.or_true, Bool.false_or, Bool.or_false, Bool.true_and, Bool.and_true, Bool.false_and, Bool.and_false, decide_true, decide_false]; done)) | walk_at "leaf")
local macro_rules | `(tactic| walk_at "ini") => `(tactic| ((simp only [List.map_cons, List.map_nil, List.cons_append, List.nil_append, List.replicate, Nat.reduceSub]); try exact rfl))
local macro_rules | `(tactic| walk_at "fn") => `(tactic| ((with_reducible apply fn_go); exact rfl; walk_at "ini"))
local macro_rules | `(tactic| walk_at "fnn") => `(tactic| ((with_reducible apply fn_gn); exact rfl; walk_at "ini"))
local macro_rules | `(tactic| walk_at "st") => `(tactic| first
  | with_reducible exact nx_rfl
  | ((with_reducible apply seq_nx); walk_at "st")
  | ((with_reducible apply seq_assoc); walk_at "st")
  | ((with_reducible apply seq_if); walk_at "ev"; first | (refine .inl ⟨?_, ?_⟩; walk_at "kt"; walk_at "st") | (refine .inr ⟨?_, ?_⟩; walk_at "kt"; walk_at "st"))
  | ((with_reducible apply seq_fz); walk_at "fz"; walk_at "st")
  | ((with_reducible apply seq_rt); first | ((with_reducible apply s_ret); walk_at "fa"; walk_at "ev") | ((with_reducible apply s_retN); walk_at "at"))
  | ((with_reducible apply seq_go); walk_at "s1"; walk_at "st"))
local macro_rules | `(tactic| walk_at "s1") => `(tactic| first
  | ((with_reducible apply s_asg); walk_at "ev"; walk_at "set")
  | ((with_reducible apply s_drop); walk_at "ev")
  | ((with_reducible apply s_par); walk_at "all"; walk_at "sa")
  | ((with_reducible apply s_unp); walk_at "ev"; (with_reducible apply gt_t); walk_at "gt")
  | ((with_reducible apply s_app); walk_at "ev"; walk_at "toD"; walk_at "at"; walk_at "sd"; walk_at "set")
  | walk_at "leaf")
noncomputable def W_times_in_1 : BE := (bT (vCmp .Eq (bFz (vBin .Mod (bVar 1) (bFz (vBin .Mult (bVar 3) (bVar 0))))) (bFz (vC (.int 0)))))
noncomputable def W_times_in_2 : SE := (sSeq (sPar [2, 3] [(vBin .Add (bVar 2) (bFz (vC (.int 1)))), (vBin .Mult (bVar 3) (bVar 0))]) sNext)
noncomputable def B_times_in : SE := (sSeq (sPar [2, 3] [(vC (.int 0)), (vC (.int 1))]) (sSeq (sWhile W_times_in_1 W_times_in_2) (sSeq (sRet (vNd .tup [(vOf (bVar 2)), (vOf (bVar 3))])) sNext)))
noncomputable def F_times_in : Fn := fnOf 2 4 B_times_in
noncomputable def B_least_common : SE := (sSeq (sRet (vBin .Mult (bFz (vBin .FloorDiv (bVar 0) (bFz (vCall F_common [(aPl (bVar 0)), (aPl (bVar 1))])))) (bVar 1))) sNext)
noncomputable def F_least_common : Fn := fnOf 2 2 B_least_common
noncomputable def W_round_parts_1 : BE := (bT (vCmp .Lt (bVar 9) (bVar 2)))
noncomputable def W_round_parts_2 : SE := (sSeq (sAsg 9 (vBin .Mult (bVar 9) (bVar 6))) sNext)
noncomputable def W_round_parts_3 : SE := (sSeq (sPut 4 [] (bVar 13) (vC (.bl true))) sNext)
noncomputable def W_round_parts_4 : SE := (sSeq (sFor (wSeq (bFz (vCall F_primes_of [(aPl (bVar 12))]))) (gN 13) W_round_parts_3) sNext)
noncomputable def W_round_parts_5 : SE := (sSeq (sAsg 14 (vBin .Mult (bVar 14) (bVar 6))) (sSeq (sAsg 10 (vCall F_least_common [(aPl (bVar 10)), (aNp (vBin .Sub (bVar 14) (bFz (vC (.int 1)))))])) sNext))
noncomputable def W_round_parts_6 : SE := (sSeq (sUnp [7, 8] (bFz (vCall F_times_in [(aPl (bVar 6)), (aPl (bVar 1))]))) (sSeq (sAsg 5 (v2 dMax (bVar 5) (bFz (vBin .Mult (bVar 2) (bVar 7))))) (sSeq (sAsg 9 (vC (.int 1))) (sSeq (sWhile W_round_parts_1 W_round_parts_2) (sSeq (sAsg 10 (vBin .Mult (bFz (vBin .FloorDiv (bVar 8) (bVar 6))) (bVar 9))) (sSeq (sFz [6] (sAsg 11 (vSl (bFz (vNd .lst [(vOf (bVar 6)), (vBin .Sub (bVar 6) (bFz (vC (.int 1)))), (vBin .Add (bVar 6) (bFz (vC (.int 1)))), (vBin .Add (bFz (vBin .Add (bFz (vBin .Mult (bVar 6) (bVar 6))) (bVar 6))) (bFz (vC (.int 1)))), (vBin .Add (bFz (vBin .Mult (bVar 6) (bVar 6))) (bFz (vC (.int 1))))])) none (some (bFz (vBin .Add (bVar 2) (bFz (vC (.int 1))))))))) (sSeq (sFz [11] (sFor (wSeq (bVar 11)) (gN 12) W_round_parts_4)) (sSeq (sAsg 14 (vC (.int 1))) (sSeq (sFor (wRange1 (bVar 2)) (gN 15) W_round_parts_5) (sSeq (sAsg 3 (vCall F_least_common [(aPl (bVar 3)), (aPl (bVar 10))])) sNext))))))))))
noncomputable def B_round_parts : SE := (sSeq (sPar [1, 2] [(vOf (bIx (bVar 0) (bFz (vC (.int 0))))), (v1 dLen (bIx (bVar 0) (bFz (vC (.int 1)))))]) (sSeq (sPar [3, 4, 5] [(vC (.int 1)), vDk, (vC (.int 0))]) (sSeq (sFor (wSeq (bFz (vCall F_primes_of [(aPl (bVar 1))]))) (gN 6) W_round_parts_6) (sSeq (sRet (vNd .tup [(vOf (bVar 3)), (v1 dSorted (bVar 4)), (vOf (bVar 5))])) sNext))))
noncomputable def F_round_parts : Fn := fnOf 1 16 B_round_parts
/-! ### dicts of primes -/
abbrev kvB (q : Nat) : L2.Key × V := (Sum.inl (q : Int), .bl true)
abbrev O.dkB (K : List Nat) : O := .nd (.dk (K.map kvB)) []
def addK (K : List Nat) (q : Nat) : List Nat := if q ∈ K then K else K ++ [q]
theorem putK_B (K : List Nat) (q : Nat) : putK (K.map kvB) (Sum.inl (q : Int)) (.bl true) = (addK K q).map kvB := by
  unfold putK addK
  have e : ((K.map kvB).any fun kv => decide (kv.1 = Sum.inl (q : Int))) = true ↔ q ∈ K := by
    rw [List.any_map, List.any_eq_true]
    constructor
    · rintro ⟨x, hx, h⟩
      have h : (Sum.inl (x : Int) : L2.Key) = Sum.inl (q : Int) := by simpa using h
      have : x = q := by
        have := Sum.inl.inj h
        omega
      rw [← this]; exact hx
    · intro h
      exact ⟨q, h, by simp⟩
  by_cases z : q ∈ K
  · rw [if_pos (e.mpr z), if_pos z, List.map_map]
    apply List.map_congr_left
    intro x _
    show (if (Sum.inl (x : Int) : L2.Key) = Sum.inl (q : Int) then _ else _) = _
    split
    · rfl
    · rfl
  · rw [if_neg (fun h => z (e.mp h)), if_neg z, List.map_append]
    rfl
theorem put_dk {t t' : Tau} {K : List Nat} {q i j : Nat} (h : t[i]? = some (some (.dkB K))) (hj : t[j]? = some (some (.int (q : Int)))) (hl : K.length < big) (ht : t.set i (some (.dkB (addK K q))) = t') : sPut i [] (bVar j) (vC (.bl true)) t = some (.nx t') := by
  unfold sPut
  rw [show vC (.bl true) t = some (O.bl true) from rfl, ob, r_var hj, ob]
  unfold sMod
  rw [r_var h, ob]
  show ((((if (K.map kvB).length < big then some (Nk.dk (putK (K.map kvB) (Sum.inl (q : Int)) (.bl true)), ([] : List O)) else none)).map fun r => O.nd r.1 r.2).map _) = _
  rw [List.length_map, if_pos hl, putK_B, ← ht]
  rfl
def insN (x : Nat) : List Nat → List Nat
  | [] => [x]
  | y :: r => if x ≤ y then x :: y :: r else y :: insN x r
def nsort : List Nat → List Nat
  | [] => []
  | x :: r => insN x (nsort r)
theorem insN_zs (x : Nat) : ∀ r : List Nat, insI (x : Int) (zs r) = zs (insN x r)
  | [] => rfl
  | y :: r => by
    show insI (x : Int) ((y : Int) :: zs r) = zs (insN x (y :: r))
    unfold insI insN
    by_cases h : x ≤ y
    · rw [if_pos h]
      first
        | rw [if_pos (by omega)]; rfl
        | rw [if_neg (by omega)]; rfl
    · rw [if_neg h]
      first
        | (rw [if_neg (by omega), insN_zs x r]; rfl)
        | (rw [if_pos (by omega), insN_zs x r]; rfl)
theorem nsort_zs : ∀ r : List Nat, isort (zs r) = zs (nsort r)
  | [] => rfl
  | x :: r => by
    show insI (x : Int) (isort (zs r)) = zs (insN x (nsort r))
    rw [nsort_zs r, insN_zs]
theorem insN_mem {x y : Nat} : ∀ {r : List Nat}, y ∈ insN x r ↔ y = x ∨ y ∈ r
  | [] => by unfold insN; simp
  | z :: r => by
    unfold insN
    split
    · simp
    · rw [List.mem_cons, insN_mem, List.mem_cons]
      constructor
      · rintro (a | a | a)
        · exact .inr (.inl a)
        · exact .inl a
        · exact .inr (.inr a)
      · rintro (a | a | a)
        · exact .inr (.inl a)
        · exact .inl a
        · exact .inr (.inr a)
theorem nsort_mem {y : Nat} : ∀ {r : List Nat}, y ∈ nsort r ↔ y ∈ r
  | [] => Iff.rfl
  | x :: r => by
    show y ∈ insN x (nsort r) ↔ _
    rw [insN_mem, nsort_mem, List.mem_cons]
theorem insN_up {x : Nat} : ∀ {r : List Nat}, r.Pairwise (· < ·) → x ∉ r → (insN x r).Pairwise (· < ·)
  | [], _, _ => by unfold insN; simp
  | z :: r, h, hx => by
    obtain ⟨h1, h2⟩ := List.pairwise_cons.mp h
    have hz : x ≠ z := fun w => hx (by rw [w]; exact List.mem_cons_self)
    unfold insN
    split
    · refine List.pairwise_cons.mpr ⟨fun y hy => ?_, h⟩
      rcases List.mem_cons.mp hy with rfl | hy
      · omega
      · have := h1 y hy
        omega
    · refine List.pairwise_cons.mpr ⟨fun y hy => ?_, insN_up h2 fun w => hx (List.mem_cons_of_mem _ w)⟩
      rcases insN_mem.mp hy with rfl | hy
      · omega
      · exact h1 y hy
theorem nsort_up : ∀ {r : List Nat}, r.Nodup → (nsort r).Pairwise (· < ·)
  | [], _ => List.Pairwise.nil
  | x :: r, h => by
    obtain ⟨h1, h2⟩ := List.nodup_cons.mp h
    exact insN_up (nsort_up h2) fun w => h1 (nsort_mem.mp w)
theorem ikeys_B : ∀ K : List Nat, ikeys? (K.map kvB) = some (zs K)
  | [] => rfl
  | q :: r => by
    show (ikeys? (r.map kvB)).map ((q : Int) :: ·) = _
    rw [ikeys_B r]
    rfl
theorem sorted_dk {K : List Nat} (h : K.length < 64) : dSorted (.dkB K) = some (.ints (zs (nsort K))) := by
  unfold dSorted
  rw [toD_nd]
  show (ikeys? (K.map kvB)).bind _ = _
  rw [ikeys_B, ob, List.length_map, if_pos h, nsort_zs]
/-! ### greater whole numbers -/
theorem lt_log {a e : Nat} (he : 0 < e) (h : a < 2 ^ e) : ((a : Int)).natAbs.log2 < e := PySem.Flt.log2_lt_of he (by rw [Int.natAbs_natCast]; exact h)
theorem mulN {a b : Nat} (ha : a < 2 ^ 8000) (hb : b < 2 ^ 8000) : dBin .Mult (.int (a : Int)) (.int (b : Int)) = some (.int ((a * b : Nat) : Int)) := by
  have h1 := lt_log (by decide) ha
  have h2 := lt_log (by decide) hb
  rw [mul_e (by omega), Int.natCast_mul]
theorem divN {a b : Nat} (hb : 0 < b) (h : b < 2 ^ 8000) : dBin .FloorDiv (.int (a : Int)) (.int (b : Int)) = some (.int ((a / b : Nat) : Int)) := by
  have h2 := lt_log (by decide) h
  rw [div_e (by omega) (by omega), Int.natCast_ediv]
theorem subN {a b : Nat} (h : b ≤ a) : dBin .Sub (.int (a : Int)) (.int (b : Int)) = some (.int ((a - b : Nat) : Int)) := by
  rw [sub_e, Int.natCast_sub h]
theorem least_common_ok {a b : Nat} (ha : 1 ≤ a) (hA : a < 2 ^ 8000) (hB : b < 2 ^ 8000) : F_least_common [.int (a : Int), .int (b : Int)] = some (.int ((a / Nat.gcd a b * b : Nat) : Int)) := by
  have c1 := common_nat a b
  have g0 : 0 < Nat.gcd a b := Nat.gcd_pos_of_pos_left _ ha
  have g1 : Nat.gcd a b < 2 ^ 8000 := Nat.lt_of_le_of_lt (Nat.le_of_dvd ha (Nat.gcd_dvd_left a b)) hA
  have d1 := divN (a := a) g0 g1
  have m1 := mulN (a := a / Nat.gcd a b) (b := b) (Nat.lt_of_le_of_lt (Nat.div_le_self _ _) hA) hB
  unfold F_least_common B_least_common
  walk_at "fn"
  walk_at "st"
/-! ### how often a prime -/
theorem le8 {a : Nat} (h : a ≤ 1000000000000) : a < 2 ^ 8000 := Nat.lt_of_le_of_lt (Nat.le_trans h (show 1000000000000 ≤ 2 ^ 40 by decide)) (Nat.pow_lt_pow_right (by decide) (by decide))
theorem times_go {p m : Nat} (hp : 2 ≤ p) (hp2 : p ≤ 1000) (m1 : 1 ≤ m) (m2 : m ≤ 1000) : ∀ (f v : Nat), v + f = 10 → p ^ v ∣ m → ∃ v', v ≤ v' ∧ p ^ v' ∣ m ∧ ¬ p ^ (v' + 1) ∣ m ∧ sWhile W_times_in_1 W_times_in_2 [some (.int (p : Int)), some (.int (m : Int)), some (.int (v : Int)), some (.int ((p ^ v : Nat) : Int))] = some (.nx [some (.int (p : Int)), some (.int (m : Int)), some (.int (v' : Int)), some (.int ((p ^ v' : Nat) : Int))]) := by
  intro f
  induction f with
  | zero =>
    intro v hv hd
    exfalso
    have := Nat.le_of_dvd m1 hd
    have h2 : 2 ^ 10 ≤ p ^ v := by
      rw [show v = 10 by omega]
      exact Nat.pow_le_pow_left hp 10
    omega
  | succ f ih =>
    intro v hv hd
    have h1 := Nat.le_of_dvd m1 hd
    have a1 := mulN (a := p ^ v) (b := p) (le8 (by omega)) (le8 (by omega))
    rw [← Nat.pow_succ] at a1
    have pp : 0 < p ^ (v + 1) := Nat.pow_pos (by omega)
    have a2 := mod_nat (a := m) (b := p ^ (v + 1)) pp
    have a3 : dCmp .Eq (.int ((m % p ^ (v + 1) : Nat) : Int)) (.int 0) = some (decide (m % p ^ (v + 1) = 0)) := eq_natc _ 0
    have cnd : W_times_in_1 [some (.int (p : Int)), some (.int (m : Int)), some (.int (v : Int)), some (.int ((p ^ v : Nat) : Int))] = some (decide (m % p ^ (v + 1) = 0)) := by
      unfold W_times_in_1
      walk_at "ev"
    by_cases z : m % p ^ (v + 1) = 0
    · obtain ⟨v', b1, b2, b3, b4⟩ := ih (v + 1) (by omega) (Nat.dvd_of_mod_eq_zero z)
      refine ⟨v', by omega, b2, b3, while_turn (by rw [cnd, decide_eq_true z]) (t2 := [some (.int (p : Int)), some (.int (m : Int)), some (.int ((v + 1 : Nat) : Int)), some (.int ((p ^ (v + 1) : Nat) : Int))]) ?_ b4⟩
      have a4 : dBin .Add (.int (v : Int)) (.int 1) = some (.int ((v + 1 : Nat) : Int)) := add_nat v 1
      unfold W_times_in_2
      walk_at "st"
    · exact ⟨v, Nat.le_refl v, hd, fun w => z (Nat.mod_eq_zero_of_dvd w), while_end (by rw [cnd, decide_eq_false z])⟩
theorem times_in_ok {p m : Nat} (hp : 2 ≤ p) (hp2 : p ≤ 1000) (m1 : 1 ≤ m) (m2 : m ≤ 1000) (hd : p ∣ m) : ∃ e, e ≤ 9 ∧ p ^ (e + 1) ∣ m ∧ ¬ p ^ (e + 2) ∣ m ∧ F_times_in [.int (p : Int), .int (m : Int)] = some (.nd .tup [.int ((e + 1 : Nat) : Int), .int ((p ^ (e + 1) : Nat) : Int)]) := by
  obtain ⟨v, b1, b2, b3, b4⟩ := times_go hp hp2 m1 m2 10 0 rfl (Nat.one_dvd m)
  have v1 : 1 ≤ v := by
    rcases Nat.eq_zero_or_pos v with z | z
    · rw [z, Nat.zero_add, Nat.pow_one] at b3
      exact absurd hd b3
    · exact z
  have v9 : v ≤ 9 := by
    rcases Nat.lt_or_ge 9 v with z | z
    · have h2 : 2 ^ 10 ≤ p ^ v := Nat.le_trans (Nat.pow_le_pow_right (by decide) z) (Nat.pow_le_pow_left hp v)
      have := Nat.le_of_dvd m1 b2
      omega
    · exact z
  obtain ⟨e, rfl⟩ : ∃ e, v = e + 1 := ⟨v - 1, by omega⟩
  refine ⟨e, by omega, b2, b3, ?_⟩
  have b5 : sWhile W_times_in_1 W_times_in_2 [some (.int (p : Int)), some (.int (m : Int)), some (.int 0), some (.int 1)] = some (.nx [some (.int (p : Int)), some (.int (m : Int)), some (.int ((e + 1 : Nat) : Int)), some (.int ((p ^ (e + 1) : Nat) : Int))]) := b4
  unfold F_times_in B_times_in
  walk_at "fn"
  walk_at "st"
/-! ### the parts of a round's length -/
structure KOk (m : Nat) (K : List Nat) : Prop where
  nd : K.Nodup
  pr : ∀ q ∈ K, PrimeN q ∧ q ∣ pcP (pl m) ∧ q < 1000000
theorem KOk.few {m : Nat} {K : List Nat} (h1 : 1 ≤ m) (h2 : m ≤ 1000) (h : KOk m K) : K.length < 64 := Mt.few h1 h2 h.nd fun q hq => ⟨(h.pr q hq).1, (h.pr q hq).2.1⟩
theorem KOk.add {m : Nat} {K : List Nat} (h : KOk m K) {q : Nat} (hq : PrimeN q ∧ q ∣ pcP (pl m) ∧ q < 1000000) : KOk m (addK K q) ∧ q ∈ addK K q ∧ ∀ x ∈ K, x ∈ addK K q := by
  unfold addK
  split
  · rename_i z
    exact ⟨h, z, fun x hx => hx⟩
  · rename_i z
    refine ⟨⟨?_, fun x hx => ?_⟩, List.mem_append_right _ (List.mem_singleton.mpr rfl), fun x hx => List.mem_append_left _ hx⟩
    · rw [List.nodup_append]
      refine ⟨h.nd, by simp, fun a ha b hb => ?_⟩
      rw [List.mem_singleton] at hb
      rintro rfl
      rw [hb] at ha
      exact z ha
    · rcases List.mem_append.mp hx with hx | hx
      · exact h.pr x hx
      · rw [List.mem_singleton] at hx
        rw [hx]; exact hq
section
variable {a0 a1 a2 a3 a5 a6 a7 a8 a9 a10 a11 a14 a15 : Option O}
theorem one_go {m : Nat} (m1 : 1 ≤ m) (m2 : m ≤ 1000) (a12 : Option O) : ∀ (L K : List Nat) (x : Option O), (∀ q ∈ L, PrimeN q ∧ q ∣ pcP (pl m) ∧ q < 1000000) → KOk m K → ∃ K' x', KOk m K' ∧ (∀ q ∈ K, q ∈ K') ∧ (∀ q ∈ L, q ∈ K') ∧
    forIn' (gN 13) W_round_parts_3 (L.map fun (q : Nat) => D.int (q : Int)) [a0, a1, a2, a3, some (.dkB K), a5, a6, a7, a8, a9, a10, a11, a12, x, a14, a15] = some (.nx [a0, a1, a2, a3, some (.dkB K'), a5, a6, a7, a8, a9, a10, a11, a12, x', a14, a15])
  | [], K, x, _, hK => ⟨K, x, hK, (fun _ h => h), (fun q h => by cases h), rfl⟩
  | q :: L, K, x, hL, hK => by
    have hq := hL q List.mem_cons_self
    obtain ⟨k1, k2, k3⟩ := hK.add hq
    obtain ⟨K', x', b1, b2, b3, b4⟩ := one_go m1 m2 a12 L (addK K q) (some (.int (q : Int))) (fun r hr => hL r (List.mem_cons_of_mem _ hr)) k1
    refine ⟨K', x', b1, fun r hr => b2 r (k3 r hr), fun r hr => ?_, for_cons (t1 := [a0, a1, a2, a3, some (.dkB K), a5, a6, a7, a8, a9, a10, a11, a12, some (.int (q : Int)), a14, a15]) rfl ?_ b4⟩
    · rcases List.mem_cons.mp hr with rfl | hr
      · exact b2 r k2
      · exact b3 r hr
    · have hl : K.length < big := Nat.lt_trans (hK.few m1 m2) (by decide)
      unfold W_round_parts_3
      exact seq_go (put_dk (K := K) (q := q) rfl rfl hl rfl) rfl
theorem piece_go {m : Nat} (m1 : 1 ≤ m) (m2 : m ≤ 1000) : ∀ (X K : List Nat) (x y : Option O), (∀ c ∈ X, 1 ≤ c ∧ c < 1000000 ∧ c ∣ pcP (pl m)) → KOk m K → ∃ K' x' y', KOk m K' ∧ (∀ q ∈ K, q ∈ K') ∧ (∀ c ∈ X, ∀ q, PrimeN q → q ∣ c → q ∈ K') ∧
    forIn' (gN 12) W_round_parts_4 (X.map fun (q : Nat) => D.int (q : Int)) [a0, a1, a2, a3, some (.dkB K), a5, a6, a7, a8, a9, a10, a11, x, y, a14, a15] = some (.nx [a0, a1, a2, a3, some (.dkB K'), a5, a6, a7, a8, a9, a10, a11, x', y', a14, a15])
  | [], K, x, y, _, hK => ⟨K, x, y, hK, (fun _ h => h), (fun q h => by cases h), rfl⟩
  | c :: X, K, x, y, hX, hK => by
    obtain ⟨c1, c2, c3⟩ := hX c List.mem_cons_self
    have hp := pl_ok c1
    obtain ⟨p1, -⟩ := primes_of_ok c1 (Nat.le_trans (Nat.le_of_lt c2) (by decide))
    obtain ⟨K1, y1, d1, d2, d3, d4⟩ := one_go (a0 := a0) (a1 := a1) (a2 := a2) (a3 := a3) (a5 := a5) (a6 := a6) (a7 := a7) (a8 := a8) (a9 := a9) (a10 := a10) (a11 := a11) (a14 := a14) (a15 := a15) m1 m2 (some (.int (c : Int))) (pl c) K y (fun q hq => ⟨((hp.mem q).mp hq).1, Nat.dvd_trans ((hp.mem q).mp hq).2 c3, Nat.lt_of_le_of_lt (Nat.le_of_dvd c1 ((hp.mem q).mp hq).2) c2⟩) hK
    obtain ⟨K', x', y', b1, b2, b3, b4⟩ := piece_go m1 m2 X K1 (some (.int (c : Int))) y1 (fun r hr => hX r (List.mem_cons_of_mem _ hr)) d1
    refine ⟨K', x', y', b1, fun r hr => b2 r (d2 r hr), fun r hr q q1 q2 => ?_, for_cons (t1 := [a0, a1, a2, a3, some (.dkB K), a5, a6, a7, a8, a9, a10, a11, some (.int (c : Int)), y, a14, a15]) rfl ?_ b4⟩
    · rcases List.mem_cons.mp hr with rfl | hr
      · exact b2 q (d3 q ((hp.mem q).mpr ⟨q1, q2⟩))
      · exact b3 r hr q q1 q2
    · have w1 : wSeq (bFz (vCall F_primes_of [(aPl (bVar 12))])) [a0, a1, a2, a3, some (.dkB K), a5, a6, a7, a8, a9, a10, a11, some (.int (c : Int)), y, a14, a15] = some ((pl c).map fun (q : Nat) => D.int (q : Int)) := by
        have e : bFz (vCall F_primes_of [(aPl (bVar 12))]) [a0, a1, a2, a3, some (.dkB K), a5, a6, a7, a8, a9, a10, a11, some (.int (c : Int)), y, a14, a15] = some (.val (.ints (zs (pl c)))) := by walk_at "ev"
        unfold wSeq
        rw [e]
        show some ((zs (pl c)).map D.int) = _
        rw [List.map_map]
        rfl
      unfold W_round_parts_4
      exact seq_go (f_go w1 d4) rfl
end
theorem size_go {p n : Nat} (hp : 2 ≤ p) (hp2 : p ≤ 1000) (n1 : 1 ≤ n) (n4 : n ≤ 4) {a0 a1 a3 a4 a5 a7 a8 a10 a11 a12 a13 a14 a15 : Option O} : ∀ (f t : Nat), t + f = 3 → p ^ t ≤ 4000 → ∃ t', n ≤ p ^ t' ∧ p ^ t' ≤ 4000 ∧ sWhile W_round_parts_1 W_round_parts_2 [a0, a1, some (.int (n : Int)), a3, a4, a5, some (.int (p : Int)), a7, a8, some (.int ((p ^ t : Nat) : Int)), a10, a11, a12, a13, a14, a15] = some (.nx [a0, a1, some (.int (n : Int)), a3, a4, a5, some (.int (p : Int)), a7, a8, some (.int ((p ^ t' : Nat) : Int)), a10, a11, a12, a13, a14, a15]) := by
  intro f
  have cnd : ∀ t, W_round_parts_1 [a0, a1, some (.int (n : Int)), a3, a4, a5, some (.int (p : Int)), a7, a8, some (.int ((p ^ t : Nat) : Int)), a10, a11, a12, a13, a14, a15] = some (decide (p ^ t < n)) := fun t => by
    have c1 := lt_nat (p ^ t) n
    unfold W_round_parts_1
    walk_at "ev"
  induction f with
  | zero =>
    intro t ht hl
    have h8 : 2 ^ 3 ≤ p ^ t := by
      rw [show t = 3 by omega]
      exact Nat.pow_le_pow_left hp 3
    exact ⟨t, by omega, hl, while_end (by rw [cnd, decide_eq_false (by omega)])⟩
  | succ f ih =>
    intro t ht hl
    by_cases z : p ^ t < n
    · have e : p ^ (t + 1) ≤ 4000 := by
        rw [Nat.pow_succ]
        calc p ^ t * p ≤ 4 * 1000 := Nat.mul_le_mul (by omega) hp2
          _ = 4000 := rfl
      obtain ⟨t', b1, b2, b3⟩ := ih (t + 1) (by omega) e
      refine ⟨t', b1, b2, while_turn (by rw [cnd, decide_eq_true z]) ?_ b3⟩
      have m1 := mulN (a := p ^ t) (b := p) (le8 (by omega)) (le8 (by omega))
      rw [← Nat.pow_succ] at m1
      unfold W_round_parts_2
      walk_at "st"
    · exact ⟨t, by omega, hl, while_end (by rw [cnd, decide_eq_false z])⟩
theorem le_2_8000 {B k : Nat} (h : B ≤ 2 ^ k) (hk : k < 8000) : B < 2 ^ 8000 := Nat.lt_of_le_of_lt h (Nat.pow_lt_pow_right (by decide) hk)
theorem high_go {p : Nat} (hp : 2 ≤ p) (hp2 : p ≤ 1000) {a0 a1 a2 a3 a4 a5 a7 a8 a9 a11 a12 a13 : Option O} : ∀ (c i b : Nat) (x : Option O), i + c ≤ 4 → 1 ≤ b → b ≤ 2 ^ (100 + 40 * i) → ∃ b' x', 1 ≤ b' ∧ b' ≤ 2 ^ (100 + 40 * (i + c)) ∧ b ∣ b' ∧ (∀ j, i < j → j ≤ i + c → p ^ j - 1 ∣ b') ∧ (∀ q, PrimeN q → q ∣ b' → q ∣ b ∨ ∃ j, i < j ∧ j ≤ i + c ∧ q ∣ p ^ j - 1) ∧
    forIn' (gN 15) W_round_parts_5 ((List.range' i c).map fun (i : Nat) => D.int (i : Int)) [a0, a1, a2, a3, a4, a5, some (.int (p : Int)), a7, a8, a9, some (.int (b : Int)), a11, a12, a13, some (.int ((p ^ i : Nat) : Int)), x] = some (.nx [a0, a1, a2, a3, a4, a5, some (.int (p : Int)), a7, a8, a9, some (.int (b' : Int)), a11, a12, a13, some (.int ((p ^ (i + c) : Nat) : Int)), x'])
  | 0, i, b, x, hc, b1, b2 => ⟨b, x, b1, b2, Nat.dvd_refl b, fun j h1 h2 => by omega, fun q _ hq => .inl hq, rfl⟩
  | c + 1, i, b, x, hc, b1, b2 => by
    have hi : p ^ (i + 1) ≤ 1000 ^ 4 := Nat.le_trans (Nat.pow_le_pow_left hp2 _) (Nat.pow_le_pow_right (by decide) (by omega))
    have hi0 : p ^ i ≤ 1000 ^ 4 := Nat.le_trans (Nat.pow_le_pow_left hp2 _) (Nat.pow_le_pow_right (by decide) (by omega))
    have hj : 2 ≤ p ^ (i + 1) := by
      calc 2 ≤ p := hp
        _ = p ^ 1 := (Nat.pow_one p).symm
        _ ≤ p ^ (i + 1) := Nat.pow_le_pow_right (by omega) (by omega)
    have e12 : (1000 : Nat) ^ 4 = 1000000000000 := by decide
    have h40 : p ^ (i + 1) - 1 ≤ 2 ^ 40 := Nat.le_trans (Nat.le_trans (Nat.sub_le _ _) hi) (show (1000 : Nat) ^ 4 ≤ 2 ^ 40 by decide)
    have m1 := mulN (a := p ^ i) (b := p) (le8 (by omega)) (le8 (by omega))
    rw [← Nat.pow_succ] at m1
    have s1 : dBin .Sub (.int ((p ^ (i + 1) : Nat) : Int)) (.int 1) = some (.int ((p ^ (i + 1) - 1 : Nat) : Int)) := subN (a := p ^ (i + 1)) (b := 1) (by omega)
    have l1 := least_common_ok (a := b) (b := p ^ (i + 1) - 1) b1 (le_2_8000 b2 (by omega)) (le8 (by omega))
    generalize hb : b / Nat.gcd b (p ^ (i + 1) - 1) * (p ^ (i + 1) - 1) = b'' at l1
    have k1 : 1 ≤ b'' := by rw [← hb]; exact lcm_pos b1 (by omega)
    have k2 : b'' ≤ 2 ^ (100 + 40 * (i + 1)) := by
      rw [← hb]
      refine Nat.le_trans (lcm_le _ _) ?_
      rw [show 100 + 40 * (i + 1) = 100 + 40 * i + 40 by omega, Nat.pow_add 2 (100 + 40 * i) 40]
      exact Nat.mul_le_mul b2 h40
    have k3 : b ∣ b'' := by rw [← hb]; exact lcm_l _ _
    have k4 : p ^ (i + 1) - 1 ∣ b'' := by rw [← hb]; exact lcm_r _ _
    obtain ⟨b', x', c1, c2, c3, c4, c5, c6⟩ := high_go hp hp2 c (i + 1) b'' (some (.int (i : Int))) (by omega) k1 k2
    refine ⟨b', x', c1, by rw [show i + (c + 1) = i + 1 + c by omega]; exact c2, Nat.dvd_trans k3 c3, fun j h1 h2 => ?_, fun q q1 q2 => ?_, ?_⟩
    · by_cases z : j = i + 1
      · rw [z]; exact Nat.dvd_trans k4 c3
      · exact c4 j (by omega) (by omega)
    · rcases c5 q q1 q2 with z | ⟨j, z1, z2, z3⟩
      · rw [← hb] at z
        rcases prime_lcm q1 z with z | z
        · exact .inl z
        · exact .inr ⟨i + 1, by omega, by omega, z⟩
      · exact .inr ⟨j, by omega, by omega, z3⟩
    · rw [show i + (c + 1) = i + 1 + c by omega]
      refine for_cons (t1 := [a0, a1, a2, a3, a4, a5, some (.int (p : Int)), a7, a8, a9, some (.int (b : Int)), a11, a12, a13, some (.int ((p ^ i : Nat) : Int)), some (.int (i : Int))]) rfl ?_ c6
      unfold W_round_parts_5
      walk_at "st"
theorem prime_998 {p : Nat} (hp : PrimeN p) (h : p ≤ 1000) : p ≤ 998 := by
  rcases Nat.lt_or_ge 998 p with z | z
  · exfalso
    have c : p = 999 ∨ p = 1000 := by omega
    rcases c with rfl | rfl
    · have := hp.2 3 (by decide)
      omega
    · have := hp.2 2 (by decide)
      omega
  · exact z
theorem pcs_small {p c : Nat} (hp : 2 ≤ p) (h : p ≤ 998) (hc : c ∈ pcs p) : 1 ≤ c ∧ c < 1000000 := by
  have pp : p * p ≤ 998 * 998 := Nat.mul_le_mul h h
  unfold pcs at hc
  simp only [List.mem_cons, List.mem_nil_iff, or_false] at hc
  rcases hc with rfl | rfl | rfl | rfl | rfl <;> omega
theorem sl_pcs (p : Nat) (n : Nat) : dSl (.val (.nd .lst [D.int (p : Int), D.int ((p - 1 : Nat) : Int), D.int ((p + 1 : Nat) : Int), D.int ((p * p + p + 1 : Nat) : Int), D.int ((p * p + 1 : Nat) : Int)])) none (some ((n + 1 : Nat) : Int)) = some (.ints (zs ((pcs p).take (n + 1)))) := by
  unfold dSl
  show (some (O.nd .lst ((cut ((zs (pcs p)).map D.int) none (some ((n + 1 : Nat) : Int))).map O.val)) : Option O) = _
  rw [cutN, ← List.map_take, ← List.map_take, List.map_map]
  rfl
structure RP (m n d M : Nat) (K : List Nat) (T : Nat) : Prop where
  m1 : 1 ≤ M
  m2 : M ≤ 2 ^ (300 * d)
  t : T ≤ 40
  all : ∀ q, PrimeN q → q ∣ M → q ∈ K
  ok : KOk m K
theorem rp_turn {m n d M T p : Nat} {K : List Nat} (m1 : 1 ≤ m) (m2 : m ≤ 1000) (n1 : 1 ≤ n) (n4 : n ≤ 4) (hd : d ≤ 8) (h : RP m n d M K T) (hp : PrimeN p) (hpm : p ∣ m) (a0 x7 x8 x9 x10 x11 x12 x13 x14 x15 : Option O) :
    ∃ (M' : Nat) (K' : List Nat) (T' : Nat) (y7 y8 y9 y10 y11 y12 y13 y14 y15 : Option O), RP m n (d + 1) M' K' T' ∧ M ∣ M' ∧ T ≤ T' ∧ Wants m n p M' T' ∧
      W_round_parts_6 [a0, some (.int (m : Int)), some (.int (n : Int)), some (.int (M : Int)), some (.dkB K), some (.int (T : Int)), some (.int (p : Int)), x7, x8, x9, x10, x11, x12, x13, x14, x15] = some (.nx [a0, some (.int (m : Int)), some (.int (n : Int)), some (.int (M' : Int)), some (.dkB K'), some (.int (T' : Int)), some (.int (p : Int)), y7, y8, y9, y10, y11, y12, y13, y14, y15]) := by
  have hpm' : p ≤ m := Nat.le_of_dvd m1 hpm
  have p2 := hp.1
  have p3 := prime_998 hp (by omega)
  obtain ⟨e, e9, e1, e2, e3⟩ := times_in_ok p2 (by omega) m1 m2 hpm
  have pe := Nat.le_of_dvd m1 e1
  obtain ⟨t, t1, t2, t3⟩ := size_go (n := n) (p := p) p2 (by omega) n1 n4 (a0 := a0) (a1 := some (.int (m : Int))) (a3 := some (.int (M : Int))) (a4 := some (.dkB K)) (a5 := some (.int ((if n * (e + 1) > T then n * (e + 1) else T : Nat) : Int))) (a7 := some (.int ((e + 1 : Nat) : Int))) (a8 := some (.int ((p ^ (e + 1) : Nat) : Int))) (a10 := x10) (a11 := x11) (a12 := x12) (a13 := x13) (a14 := x14) (a15 := x15) 3 0 rfl (by rw [Nat.pow_zero]; decide)
  have t3' : sWhile W_round_parts_1 W_round_parts_2 [a0, some (.int (m : Int)), some (.int (n : Int)), some (.int (M : Int)), some (.dkB K), some (.int ((if n * (e + 1) > T then n * (e + 1) else T : Nat) : Int)), some (.int (p : Int)), some (.int ((e + 1 : Nat) : Int)), some (.int ((p ^ (e + 1) : Nat) : Int)), some (.int 1), x10, x11, x12, x13, x14, x15] = _ := t3
  have pcp : ∀ c ∈ (pcs p).take (n + 1), 1 ≤ c ∧ c < 1000000 ∧ c ∣ pcP (pl m) := fun c hc => by
    have hc' := List.mem_of_mem_take hc
    have := pcs_small p2 p3 hc'
    exact ⟨this.1, this.2, Nat.dvd_trans (prodN_mem hc') (pcP_mem (((pl_ok m1).mem p).mpr ⟨hp, hpm⟩))⟩
  obtain ⟨K', x', y', k1, k2, k3, k4⟩ := piece_go (a0 := a0) (a1 := some (.int (m : Int))) (a2 := some (.int (n : Int))) (a3 := some (.int (M : Int))) (a5 := some (.int ((if n * (e + 1) > T then n * (e + 1) else T : Nat) : Int))) (a6 := some (.int (p : Int))) (a7 := some (.int ((e + 1 : Nat) : Int))) (a8 := some (.int ((p ^ (e + 1) : Nat) : Int))) (a9 := some (.int ((p ^ t : Nat) : Int))) (a10 := some (.int ((p ^ e * p ^ t : Nat) : Int))) (a11 := some (.val (.ints (zs ((pcs p).take (n + 1)))))) (a14 := x14) (a15 := x15) m1 m2 ((pcs p).take (n + 1)) K x12 x13 pcp h.ok
  have pe' : p ^ e ≤ 1000 := by
    have : p ^ e ≤ p ^ (e + 1) := Nat.pow_le_pow_right (by omega) (by omega)
    omega
  have b0 : p ^ e * p ^ t ≤ 2 ^ (100 + 40 * 0) := by
    refine Nat.le_trans (Nat.mul_le_mul pe' t2) (Nat.le_trans (show 1000 * 4000 ≤ 2 ^ 100 by decide) (Nat.le_refl _))
  obtain ⟨b, z, c1, c2, c3, c4, c5, c6⟩ := high_go (p := p) p2 (by omega) (a0 := a0) (a1 := some (.int (m : Int))) (a2 := some (.int (n : Int))) (a3 := some (.int (M : Int))) (a4 := some (.dkB K')) (a5 := some (.int ((if n * (e + 1) > T then n * (e + 1) else T : Nat) : Int))) (a7 := some (.int ((e + 1 : Nat) : Int))) (a8 := some (.int ((p ^ (e + 1) : Nat) : Int))) (a9 := some (.int ((p ^ t : Nat) : Int))) (a11 := some (.val (.ints (zs ((pcs p).take (n + 1)))))) (a12 := x') (a13 := y') n 0 (p ^ e * p ^ t) x15 (by omega) (Nat.mul_pos (Nat.pow_pos (by omega)) (Nat.pow_pos (by omega))) b0
  have c6' : forIn' (gN 15) W_round_parts_5 ((List.range' 0 n).map fun (i : Nat) => D.int (i : Int)) [a0, some (.int (m : Int)), some (.int (n : Int)), some (.int (M : Int)), some (.dkB K'), some (.int ((if n * (e + 1) > T then n * (e + 1) else T : Nat) : Int)), some (.int (p : Int)), some (.int ((e + 1 : Nat) : Int)), some (.int ((p ^ (e + 1) : Nat) : Int)), some (.int ((p ^ t : Nat) : Int)), some (.int ((p ^ e * p ^ t : Nat) : Int)), some (.val (.ints (zs ((pcs p).take (n + 1))))), x', y', some (.int 1), x15] = _ := c6
  have hM : M < 2 ^ 8000 := le_2_8000 h.m2 (by omega)
  have bb : b ≤ 2 ^ 260 := Nat.le_trans c2 (Nat.pow_le_pow_right (by decide) (by omega))
  have l1 := least_common_ok (a := M) (b := b) h.m1 hM (le_2_8000 bb (by decide))
  have ht : T ≤ (if n * (e + 1) > T then n * (e + 1) else T) ∧ n * (e + 1) ≤ (if n * (e + 1) > T then n * (e + 1) else T) ∧ (if n * (e + 1) > T then n * (e + 1) else T) ≤ 40 := by
    have := h.t
    have : n * (e + 1) ≤ 4 * 10 := Nat.mul_le_mul n4 (by omega)
    split <;> omega
  have u1 := mulN (a := n) (b := e + 1) (le8 (by omega)) (le8 (by omega))
  have u2 : dMax (.int (T : Int)) (.int ((n * (e + 1) : Nat) : Int)) = some (.int ((if n * (e + 1) > T then n * (e + 1) else T : Nat) : Int)) := by
    show some (O.int (if ((n * (e + 1) : Nat) : Int) > (T : Int) then ((n * (e + 1) : Nat) : Int) else (T : Int))) = _
    by_cases w : n * (e + 1) > T
    · rw [if_pos w, if_pos (by omega)]
    · rw [if_neg w, if_neg (by omega)]
  have u3 := divN (a := p ^ (e + 1)) (b := p) (by omega) (le8 (by omega))
  rw [Nat.pow_succ, Nat.mul_div_cancel _ (show 0 < p by omega), ← Nat.pow_succ] at u3
  have u4 := mulN (a := p ^ e) (b := p ^ t) (le8 (by omega)) (le8 (by omega))
  have v1 : dBin .Sub (.int (p : Int)) (.int 1) = some (.int ((p - 1 : Nat) : Int)) := subN (a := p) (b := 1) (by omega)
  have v2' : dBin .Add (.int (p : Int)) (.int 1) = some (.int ((p + 1 : Nat) : Int)) := add_nat p 1
  have v3 := mulN (a := p) (b := p) (le8 (by omega)) (le8 (by omega))
  have v4 := add_nat (p * p) p
  have v5 : dBin .Add (.int ((p * p + p : Nat) : Int)) (.int 1) = some (.int ((p * p + p + 1 : Nat) : Int)) := add_nat (p * p + p) 1
  have v6 : dBin .Add (.int ((p * p : Nat) : Int)) (.int 1) = some (.int ((p * p + 1 : Nat) : Int)) := add_nat (p * p) 1
  have v7 : dBin .Add (.int (n : Int)) (.int 1) = some (.int ((n + 1 : Nat) : Int)) := add_nat n 1
  have v8 := sl_pcs p n
  have w2 := f_go (w := wSeq (bVar 11)) (t := [a0, some (.int (m : Int)), some (.int (n : Int)), some (.int (M : Int)), some (.dkB K), some (.int ((if n * (e + 1) > T then n * (e + 1) else T : Nat) : Int)), some (.int (p : Int)), some (.int ((e + 1 : Nat) : Int)), some (.int ((p ^ (e + 1) : Nat) : Int)), some (.int ((p ^ t : Nat) : Int)), some (.int ((p ^ e * p ^ t : Nat) : Int)), some (.val (.ints (zs ((pcs p).take (n + 1))))), x12, x13, x14, x15]) (ds := ((pcs p).take (n + 1)).map fun (q : Nat) => D.int (q : Int)) (by
      show some ((zs ((pcs p).take (n + 1))).map D.int) = _
      rw [List.map_map]
      rfl) k4
  have w3 := f_go (w := wRange1 (bVar 2)) (wr1' (n := n) rfl (by unfold big; omega)) c6'
  refine ⟨M / Nat.gcd M b * b, K', (if n * (e + 1) > T then n * (e + 1) else T), some (.int ((e + 1 : Nat) : Int)), some (.int ((p ^ (e + 1) : Nat) : Int)), some (.int ((p ^ t : Nat) : Int)), some (.int (b : Int)), some (.val (.ints (zs ((pcs p).take (n + 1))))), x', y', some (.int ((p ^ (0 + n) : Nat) : Int)), z, ⟨lcm_pos h.m1 c1, ?_, ht.2.2, fun q q1 q2 => ?_, k1⟩, lcm_l M b, ht.1, ⟨e, e2, e1, ht.2.1, ⟨t, t1, ?_⟩, fun i i1 i2 => Nat.dvd_trans (c4 i (by omega) (by omega)) (lcm_r M b)⟩, ?_⟩
  · refine Nat.le_trans (lcm_le M b) ?_
    rw [show 300 * (d + 1) = 300 * d + 300 by omega, Nat.pow_add 2 (300 * d) 300]
    exact Nat.mul_le_mul h.m2 (Nat.le_trans bb (Nat.pow_le_pow_right (by decide) (by decide)))
  · rcases prime_lcm q1 q2 with w | w
    · exact k2 q (h.all q q1 w)
    · have : ∃ c ∈ (pcs p).take (n + 1), q ∣ c := by
        rcases c5 q q1 w with w | ⟨j, j1, j2, j3⟩
        · rw [← Nat.pow_add] at w
          refine ⟨p, ?_, prime_pow_dvd q1 w⟩
          show p ∈ p :: _
          exact List.mem_cons_self
        · exact prime_pieces p2 q1 (by omega) (by omega) n4 j3
      obtain ⟨c, d1, d2⟩ := this
      exact k3 c d1 q q1 d2
  · rw [Nat.pow_add]
    exact Nat.dvd_trans c3 (lcm_r M b)
  · unfold W_round_parts_6
    walk_at "st"
theorem rp_go {m n : Nat} (m1 : 1 ≤ m) (m2 : m ≤ 1000) (n1 : 1 ≤ n) (n4 : n ≤ 4) (a0 : Option O) : ∀ (L : List Nat) (d M T : Nat) (K : List Nat) (x6 x7 x8 x9 x10 x11 x12 x13 x14 x15 : Option O), (∀ p ∈ L, PrimeN p ∧ p ∣ m) → d + L.length ≤ 8 → RP m n d M K T →
    ∃ (M' : Nat) (K' : List Nat) (T' : Nat) (y6 y7 y8 y9 y10 y11 y12 y13 y14 y15 : Option O), RP m n (d + L.length) M' K' T' ∧ M ∣ M' ∧ T ≤ T' ∧ (∀ p ∈ L, Wants m n p M' T') ∧
      forIn' (gN 6) W_round_parts_6 (L.map fun (p : Nat) => D.int (p : Int)) [a0, some (.int (m : Int)), some (.int (n : Int)), some (.int (M : Int)), some (.dkB K), some (.int (T : Int)), x6, x7, x8, x9, x10, x11, x12, x13, x14, x15] = some (.nx [a0, some (.int (m : Int)), some (.int (n : Int)), some (.int (M' : Int)), some (.dkB K'), some (.int (T' : Int)), y6, y7, y8, y9, y10, y11, y12, y13, y14, y15])
  | [], d, M, T, K, x6, x7, x8, x9, x10, x11, x12, x13, x14, x15, hL, hd, h => ⟨M, K, T, x6, x7, x8, x9, x10, x11, x12, x13, x14, x15, h, Nat.dvd_refl M, Nat.le_refl T, (fun p hp => by cases hp), rfl⟩
  | p :: L, d, M, T, K, x6, x7, x8, x9, x10, x11, x12, x13, x14, x15, hL, hd, h => by
    obtain ⟨p1, p2⟩ := hL p List.mem_cons_self
    have hd' : d + 1 + L.length ≤ 8 := by
      rw [List.length_cons] at hd
      omega
    obtain ⟨M1, K1, T1, y7, y8, y9, y10, y11, y12, y13, y14, y15, c1, c2, c3, c4, c5⟩ := rp_turn m1 m2 n1 n4 (by omega) h p1 p2 a0 x7 x8 x9 x10 x11 x12 x13 x14 x15
    obtain ⟨M', K', T', z6, z7, z8, z9, z10, z11, z12, z13, z14, z15, e1, e2, e3, e4, e5⟩ := rp_go m1 m2 n1 n4 a0 L (d + 1) M1 T1 K1 (some (.int (p : Int))) y7 y8 y9 y10 y11 y12 y13 y14 y15 (fun q hq => hL q (List.mem_cons_of_mem _ hq)) hd' c1
    refine ⟨M', K', T', z6, z7, z8, z9, z10, z11, z12, z13, z14, z15, ?_, Nat.dvd_trans c2 e2, Nat.le_trans c3 e3, fun q hq => ?_, for_cons rfl c5 e5⟩
    · rw [List.length_cons, show d + (L.length + 1) = d + 1 + L.length by omega]
      exact e1
    · rcases List.mem_cons.mp hq with rfl | hq
      · exact c4.more e2 e3
      · exact e4 q hq
theorem pl_few {m : Nat} (m1 : 1 ≤ m) (m2 : m ≤ 1000) : (pl m).length ≤ 7 := by
  have hp := pl_ok m1
  have a := prodN_1 (L := pl m) (hp.up.imp fun {a b} z => by omega) fun p h => ((hp.mem p).mp h).1
  have b := Nat.le_of_dvd m1 (prodN_dvd (L := pl m) (hp.up.imp fun {a b} z => by omega) fun p h => (hp.mem p).mp h)
  rcases Nat.lt_or_ge 7 (pl m).length with z | z
  · exfalso
    have e : 3 ^ 8 ≤ 3 ^ (pl m).length := Nat.pow_le_pow_right (by decide) z
    have e8 : 3 ^ 8 = 6561 := by decide
    omega
  · exact z
theorem round_parts_ok {m : Nat} {ws : List Int} (h : Wh (m : Int) ws) : ∃ (M T : Nat) (S : List Nat), 1 ≤ M ∧ M < 2 ^ 8000 ∧ T ≤ 40 ∧ (∀ p, PrimeN p → p ∣ m → Wants m ws.length p M T) ∧ S.Pairwise (· < ·) ∧ S.length < 64 ∧ (∀ q ∈ S, PrimeN q ∧ q < 1000000) ∧ (∀ q, PrimeN q → q ∣ M → q ∈ S) ∧
    F_round_parts [.val (.wheel (m : Int) ws)] = some (.nd .tup [.int (M : Int), .ints (zs S), .int (T : Int)]) := by
  have m1 : 1 ≤ m := by have := h.lo; omega
  have m2 : m ≤ 1000 := by have := h.hi; omega
  have hp := pl_ok m1
  have r0 : RP m ws.length 0 1 [] 0 := ⟨Nat.le_refl 1, Nat.le_refl 1, by decide, fun q q1 q2 => by
    have := Nat.le_of_dvd (by decide) q2
    have := q1.1
    omega, ⟨List.nodup_nil, fun q hq => by cases hq⟩⟩
  obtain ⟨M, K, T, y6, y7, y8, y9, y10, y11, y12, y13, y14, y15, e1, e2, e3, e4, e5⟩ := rp_go m1 m2 h.len h.most (some (.val (.wheel (m : Int) ws))) (pl m) 0 1 0 [] none none none none none none none none none none (fun p hq => (hp.mem p).mp hq) (by have := pl_few m1 m2; omega) r0
  have hf := e1.ok.few m1 m2
  have e5' : forIn' (gN 6) W_round_parts_6 ((pl m).map fun (p : Nat) => D.int (p : Int)) [some (.val (.wheel (m : Int) ws)), some (.int (m : Int)), some (.int (ws.length : Int)), some (.int 1), some (.dkB []), some (.int 0), none, none, none, none, none, none, none, none, none, none] = _ := e5
  obtain ⟨p1, -⟩ := primes_of_ok m1 (Nat.le_trans m2 (by decide))
  have w1 : wSeq (bFz (vCall F_primes_of [(aPl (bVar 1))])) [some (.val (.wheel (m : Int) ws)), some (.int (m : Int)), some (.int (ws.length : Int)), some (.int 1), some (.dkB []), some (.int 0), none, none, none, none, none, none, none, none, none, none] = some ((pl m).map fun (q : Nat) => D.int (q : Int)) := by
    have e : bFz (vCall F_primes_of [(aPl (bVar 1))]) [some (.val (.wheel (m : Int) ws)), some (.int (m : Int)), some (.int (ws.length : Int)), some (.int 1), some (.dkB []), some (.int 0), none, none, none, none, none, none, none, none, none, none] = some (.val (.ints (zs (pl m)))) := by walk_at "ev"
    unfold wSeq
    rw [e]
    show some ((zs (pl m)).map D.int) = _
    rw [List.map_map]
    rfl
  have w2 := f_go w1 e5'
  have hv : ∀ t, vDk t = some (.dkB []) := fun t => rfl
  have hv' := hv [some (.val (.wheel (m : Int) ws)), some (.int (m : Int)), some (.int (ws.length : Int)), none, none, none, none, none, none, none, none, none, none, none, none, none]
  have hs : dSorted (.val (.nd (.dk (K.map kvB)) [])) = some (.ints (zs (nsort K))) := sorted_dk hf
  refine ⟨M, T, nsort K, e1.m1, le_2_8000 e1.m2 (by have := pl_few m1 m2; omega), e1.t, fun p q1 q2 => e4 p ((hp.mem p).mpr ⟨q1, q2⟩), nsort_up e1.ok.nd, ?_, fun q hq => ?_, fun q q1 q2 => nsort_mem.mpr (e1.all q q1 q2), ?_⟩
  · have := len_le (a := nsort K) (b := K) ((nsort_up e1.ok.nd).imp fun {a b} z => by omega) fun x hx => nsort_mem.mp hx
    omega
  · have := e1.ok.pr q (nsort_mem.mp hq)
    exact ⟨this.1, this.2.2⟩
  · unfold F_round_parts B_round_parts
    walk_at "fn"
    walk_at "st"
end Den

/-! PD -/
namespace Den
open PySem L2 Mt
local macro_rules | `(tactic| walk_at "den") => `(tactic| (all_goals (try simp only [fnOf, sSeq, sFz, sAsg, sPar, sUnp, sDrop, sRet, sRetN, sIf, sNext, sNever, sPut, sApp, sMod, modAt, mApp, mPut, fzAt, fzAll, vAll, setAll, gN, gT, gSet, wipeT, vOf, bFz, vC, v1, v2, vBin, vNeg, vCmp, vChain, vAnd, vOr, vNot, bT, bAnd, bOr, bNot, vIf, bIx, dIx, O.isDict, vSl, opI, vNd, vCall, aAll, aPl, aNp, aMv, wSeq, wRange1, wRange2, wRange3, wZip, wEnum, bVar, bYes, dBin, dSub, dMod, dFdiv, dPow, dShl, dShr, i2, dNeg, dCmp, c2, dIs, dInt, dAbs, dMax, dMin, O.child, O.fz, O.toD, O.toDs, O.isVal, O.int?, O.bl?, O.v?, O.allFlat, O.allFlats, ob, om, Option.map_some, Option.bind_some, Option.map_none, Option.bind_none, Option.join_some, Option.join_none, List.length_cons, List.length_nil, List.map_cons, List.map_nil, List.replicate, List.cons_append, List.nil_append, List.getElem?_cons_zero, List.getElem?_cons_succ, List.set_cons_zero, List.set_cons_succ, if_true, if_false, Bool.false_eq_true, reduceIte, Nat.reduceAdd, Nat.reduceSub, Nat.reduceEqDiff, Bool.not_true, Bool.not_false, Bool.and_true, Bool.true_and, Bool.and_false, Bool.false_and, List.all_cons, List.all_nil, true_or, or_true, true_and, and_true, O.ty, dIsB, dAll, dAny, dSum, dLen, dList, dTuple, O.top, O.vals?, dSl, dAdd, dMul, ints?_map, ints?_map', bls?_map, bls?_map', toDs_map', vals_map', toDs_ints, vals_map, toDs_vals, List.length_map, dEq_int, dEq_ints, dEq_bl, cut_map, decide_true, decide_false, decide_eq_true_eq, Bool.not_eq_true', kit_ii, kit_ib, kit_ll, kit_tt, allFlats_ints, vals_mapI, Int.cast_ofNat_Int, Int.reduceAdd, Int.reduceSub, Int.reduceMul, Int.reduceNeg, Int.reduceLT, Int.reduceLE, Int.reduceEq, Int.reduceMod, Int.reduceDiv, Int.reducePow, Int.reduceToNat, Nat.reduceMul, Nat.reducePow, Nat.reduceLeDiff, Nat.reduceLT, decide_not, Int.ofNat_one, Int.ofNat_zero, ne_eq, not_true, not_false_iff, Int.reduceNe])))
local macro_rules | `(tactic| walk_at "sd") => `(tactic| first | with_reducible assumption | omega | decide)
local macro_rules | `(tactic| walk_at "toD") => `(tactic| first | with_reducible exact toD_val _ | with_reducible exact toD_ints _ | with_reducible exact toD_mat _ | with_reducible exact toD_wo _ _ | ((with_reducible apply toD_n); walk_at "toDs") | walk_at "leaf")
local macro_rules | `(tactic| walk_at "toDs") => `(tactic| first | with_reducible exact toDs_0 | with_reducible exact toDs_ints _ | with_reducible exact toDs_vals _ | with_reducible exact toDs_map' _ _ | ((with_reducible apply toDs_1); walk_at "toD"; walk_at "toDs"))
local macro_rules | `(tactic| walk_at "leaf") => `(tactic| with_reducible assumption)
local macro_rules | `(tactic| walk_at "op") => `(tactic| first | walk_at "leaf" | with_reducible exact add_e _ _ | with_reducible exact sub_e _ _ | exact mod_e (by walk_at "sd") | exact div_e (by walk_at "sd") (by walk_at "sd") | exact mul_e (by walk_at "sd") | exact mulL_ints _ _ (by walk_at "sd") (by walk_at "sd") | exact cat_ints (xs := _) (ys := _) (by walk_at "top") (by walk_at "top") (by walk_at "sd") | exact pow_e (by walk_at "sd") (by walk_at "sd") | walk_at "leaf")
local macro_rules | `(tactic| walk_at "top") => `(tactic| first | exact top_ints _ | exact top_vints _ | exact rfl)
local macro_rules | `(tactic| walk_at "cmp") => `(tactic| first | with_reducible assumption | with_reducible exact lt_e _ _ | with_reducible exact le_e _ _ | with_reducible exact gt_e _ _ | with_reducible exact ge_e _ _ | with_reducible exact eq_e _ _ | with_reducible exact ne_e _ _ | with_reducible exact is_bl _ _ | with_reducible exact nis_bl _ _ | ((with_reducible apply co_eq); walk_at "toD"; walk_at "toD"; walk_at "deq") | ((with_reducible apply co_ne); walk_at "toD"; walk_at "toD"; walk_at "deq") | walk_at "leaf")
local macro_rules | `(tactic| walk_at "deq") => `(tactic| first | walk_at "leaf" | exact dEq_ints _ _ | with_reducible exact dEq_wheel _ _ _ _ | exact dEq_bl _ _ | exact dEq_int _ _ | walk_at "leaf")
local macro_rules | `(tactic| walk_at "as") => `(tactic| first | with_reducible exact as_0 | ((with_reducible apply as_1); (first | ((with_reducible apply r_pl); walk_at "ev"; walk_at "toD"; exact rfl) | ((with_reducible apply r_np); walk_at "ev"; walk_at "toD") | ((with_reducible apply r_mv); walk_at "ev")); walk_at "as"))
local macro_rules | `(tactic| walk_at "all") => `(tactic| first | with_reducible exact all_0 | ((with_reducible apply all_1); walk_at "ev"; walk_at "all"))
local macro_rules | `(tactic| walk_at "ev") => `(tactic| first
  | with_reducible assumption
  | ((with_reducible apply r_var); walk_at "at")
  | with_reducible exact r_c
  | ((with_reducible apply r_fz); walk_at "ev"; walk_at "toD")
  | ((with_reducible apply r_of); walk_at "ev")
  | ((with_reducible apply e_bin); walk_at "ev"; walk_at "ev"; walk_at "op")
  | ((with_reducible apply r_cmp); walk_at "ev"; walk_at "ev"; walk_at "cmp")
  | ((with_reducible apply e_ix); walk_at "ev"; walk_at "ev"; walk_at "child")
  | ((with_reducible apply r_call); walk_at "as"; walk_at "leaf"; (first | exact .inl rfl | exact .inr ⟨rfl, rfl⟩ | exact .inr ⟨rfl, allFlat_ints _⟩ | exact .inr ⟨rfl, by walk_at "leaf"⟩))
  | ((with_reducible apply r_meth); walk_at "ev"; walk_at "leaf"; walk_at "leaf"; walk_at "leaf"; exact rfl; walk_at "ev")
  | ((with_reducible apply r_fld); walk_at "ev"; walk_at "leaf")
  | ((with_reducible apply r_T); walk_at "ev")
  | ((with_reducible apply r_bnot); walk_at "ev")
  | ((with_reducible apply r_band0); (with_reducible apply r_T); (with_reducible apply r_var); walk_at "at")
  | ((with_reducible apply r_bor1); (with_reducible apply r_T); (with_reducible apply r_var); walk_at "at")
  | ((with_reducible apply r_bor); walk_at "ev"; (intro hk; walk_at "ev"))
  | ((with_reducible apply r_band); walk_at "ev"; (intro hk; walk_at "ev"))
  | ((with_reducible apply r_or); walk_at "ev"; (intro hk; walk_at "ev"))
  | ((with_reducible apply r_and); walk_at "ev"; (intro hk; walk_at "ev"))
  | ((with_reducible apply r_not); walk_at "ev")
  | ((with_reducible apply r_neg); walk_at "ev")
  | ((with_reducible apply r_chain); walk_at "ev"; walk_at "ev"; walk_at "cmp"; (intro hk; walk_at "ev"); (intro hk; walk_at "cmp"))
  | ((with_reducible apply r_sl); walk_at "ev"; (first | with_reducible exact r_opn | (apply r_ops; walk_at "ev")); (first | with_reducible exact r_opn | (apply r_ops; walk_at "ev")); walk_at "leaf")
  | ((with_reducible apply e_nd); walk_at "all"; exact Nat.le_of_ble_eq_true rfl)
  | ((with_reducible apply e_v1); walk_at "ev"; walk_at "un")
  | ((with_reducible apply e_v2); walk_at "ev"; walk_at "ev"; walk_at "leaf")
  | walk_at "leaf")
local macro_rules | `(tactic| walk_at "un") => `(tactic| first | walk_at "leaf" | exact len_ints _ | exact list_ints _ | exact dRev_ints _ | exact dInt_bl _ | walk_at "leaf")
local macro_rules | `(tactic| walk_at "child") => `(tactic| first | walk_at "leaf" | with_reducible exact wheel_m _ _ | with_reducible exact wheel_w _ _ | exact child_ints (j := 0) (by walk_at "sd"))
local macro_rules | `(tactic| walk_at "set") => `(tactic| first | with_reducible exact l_set0 | ((with_reducible apply l_setS); walk_at "set"))
local macro_rules | `(tactic| walk_at "at") => `(tactic| first | with_reducible exact l_at0 | ((with_reducible apply l_atS); walk_at "at"))
local macro_rules | `(tactic| walk_at "fz") => `(tactic| first | with_reducible exact fz_0 | ((with_reducible apply fz_1); walk_at "at"; walk_at "toD"; walk_at "set"; walk_at "fz") | ((with_reducible apply fz_n); walk_at "at"; walk_at "fz"))
local macro_rules | `(tactic| walk_at "fa") => `(tactic| first | with_reducible exact fa_0 | ((with_reducible apply fa_n); walk_at "fa") | ((with_reducible apply fa_s); walk_at "toD"; walk_at "fa") | ((with_reducible apply fa_x); walk_at "fa"))
local macro_rules | `(tactic| walk_at "gt") => `(tactic| first | with_reducible exact gt_0 | ((with_reducible apply gt_1); walk_at "set"; walk_at "gt"))
local macro_rules | `(tactic| walk_at "sa") => `(tactic| first | with_reducible exact sa_0 | ((with_reducible apply sa_1); walk_at "set"; walk_at "sa"))
local macro_rules | `(tactic| walk_at "kt") => `(tactic| first | with_reducible assumption | exact rfl | (focus ((simp only [Bool.or_eq_true, Bool.and_eq_true, Bool.or_eq_false_iff, Bool.and_eq_false_iff, Bool.not_eq_true', Bool.not_eq_false', decide_eq_true_eq, decide_eq_false_iff_not, Bool.not_true, Bool.not_false, Bool.true_or, Bool.or_true, Bool.false_or, Bool.or_false, Bool.true_and, Bool.and_true, Bool.false_and, Bool.and_false, Bool.false_eq_true, Bool.true_eq_false, not_false_iff, true_and, and_true, or_true, true_or, false_or, or_false]) <;> omega)) | (focus (simp only [*, Bool.not_true, Bool.not_false, Bool.true_or, Bool.or_true, Bool.false_or, Bool.or_false, Bool.true_and, Bool.and_true, Bool.false_and, Bool.and_false, decide_true, decide_false]; done)) | walk_at "leaf")
local macro_rules | `(tactic| walk_at "ini") => `(tactic| ((simp only [List.map_cons, List.map_nil, List.cons_append, List.nil_append, List.replicate, Nat.reduceSub]); try exact rfl))
local macro_rules | `(tactic| walk_at "fn") => `(tactic| ((with_reducible apply fn_go); exact rfl; walk_at "ini"))
local macro_rules | `(tactic| walk_at "fnn") => `(tactic| ((with_reducible apply fn_gn); exact rfl; walk_at "ini"))
local macro_rules | `(tactic| walk_at "st") => `(tactic| first
  | with_reducible exact nx_rfl
  | ((with_reducible apply seq_nx); walk_at "st")
  | ((with_reducible apply seq_assoc); walk_at "st")
  | ((with_reducible apply seq_if); walk_at "ev"; first | (refine .inl ⟨?_, ?_⟩; walk_at "kt"; walk_at "st") | (refine .inr ⟨?_, ?_⟩; walk_at "kt"; walk_at "st"))
  | ((with_reducible apply seq_fz); walk_at "fz"; walk_at "st")
  | ((with_reducible apply seq_rt); first | ((with_reducible apply s_ret); walk_at "fa"; walk_at "ev") | ((with_reducible apply s_retN); walk_at "at"))
  | ((with_reducible apply seq_go); walk_at "s1"; walk_at "st"))
local macro_rules | `(tactic| walk_at "s1") => `(tactic| first
  | ((with_reducible apply s_asg); walk_at "ev"; walk_at "set")
  | ((with_reducible apply s_drop); walk_at "ev")
  | ((with_reducible apply s_par); walk_at "all"; walk_at "sa")
  | ((with_reducible apply s_unp); walk_at "ev"; (with_reducible apply gt_t); walk_at "gt")
  | ((with_reducible apply s_app); walk_at "ev"; walk_at "toD"; walk_at "at"; walk_at "sd"; walk_at "set")
  | walk_at "leaf")
noncomputable def B_stepped : SE := (sSeq (sFz [0] (sUnp [2, 3] (bVar 0))) (sSeq (sRet (vBin .Add (bFz (vSl (bVar 1) (some (bFz (vC (.int 1)))) none)) (bFz (vNd .lst [(vBin .Mod (bFz (v1 dSum (bFz (vLc (wZip (bVar 3) (bVar 1)) [4, 5] (gT [4, 5]) bYes (vBin .Mult (bVar 4) (bVar 5)))))) (bVar 2))])))) sNext))
noncomputable def F_stepped : Fn := fnOf 2 6 B_stepped
noncomputable def W_length_of_1 : BE := (bAnd (bT (vCmp .Eq (bFz (vBin .Mod (bVar 5) (bVar 6))) (bFz (vC (.int 0))))) (bT (vCmp .Eq (bFz (vCall F_led_on [(aPl (bVar 0)), (aPl (bVar 1)), (aPl (bVar 2)), (aNp (vBin .FloorDiv (bVar 5) (bVar 6)))])) (bVar 2))))
noncomputable def W_length_of_2 : SE := (sSeq (sAsg 5 (vBin .FloorDiv (bVar 5) (bVar 6))) sNext)
noncomputable def W_length_of_3 : SE := (sSeq (sWhile W_length_of_1 W_length_of_2) sNext)
noncomputable def B_length_of : SE := (sSeq (sFz [3] (sAsg 5 (vOf (bVar 3)))) (sSeq (sFz [4] (sFor (wSeq (bVar 4)) (gN 6) W_length_of_3)) (sSeq (sRetN 5) sNext)))
noncomputable def F_length_of : Fn := fnOf 5 7 B_length_of
noncomputable def W_course_of_1 : SE := (sSeq (sApp 5 [] (vCall F_stepped [(aPl (bVar 0)), (aPl (bIx (bVar 5) (bFz (vNeg (bFz (vC (.int 1)))))))])) sNext)
noncomputable def W_course_of_2 : BE := (bAnd (bT (vCmp .Gt (bVar 9) (bFz (vC (.int 0))))) (bT (vCmp .Eq (bFz (vCall F_led_on [(aPl (bIx (bVar 0) (bFz (vC (.int 0))))), (aPl (bVar 7)), (aPl (bIx (bVar 5) (bFz (vBin .Sub (bVar 9) (bFz (vC (.int 1))))))), (aPl (bVar 8))])) (bIx (bVar 5) (bFz (vBin .Sub (bVar 9) (bFz (vC (.int 1)))))))))
noncomputable def W_course_of_3 : SE := (sSeq (sAsg 9 (vBin .Sub (bVar 9) (bFz (vC (.int 1))))) sNext)
noncomputable def B_course_of : SE := (sSeq (sUnp [2, 3, 4] (bFz (vCall F_round_parts [(aPl (bVar 0))]))) (sSeq (sAsg 5 (vNd .lst [(v1 dList (bVar 1))])) (sSeq (sFor (wRange1 (bVar 4)) (gN 6) W_course_of_1) (sSeq (sAsg 7 (vCall F_ladder_of [(aPl (bIx (bVar 0) (bFz (vC (.int 0))))), (aNp (vCall F_table_of [(aPl (bVar 0))])), (aPl (bVar 2))])) (sSeq (sAsg 8 (vCall F_length_of [(aPl (bIx (bVar 0) (bFz (vC (.int 0))))), (aPl (bVar 7)), (aPl (bIx (bVar 5) (bFz (vNeg (bFz (vC (.int 1))))))), (aPl (bVar 2)), (aPl (bVar 3))])) (sSeq (sFz [4] (sAsg 9 (vOf (bVar 4)))) (sSeq (sWhile W_course_of_2 W_course_of_3) (sSeq (sRet (vNd .tup [(vOf (bVar 9)), (vOf (bVar 8)), (vLc (wSeq (bVar 3)) [10] (gN 10) (bT (vCmp .Eq (bFz (vBin .Mod (bVar 8) (bVar 10))) (bFz (vC (.int 0))))) (vOf (bVar 10))), (vOf (bIx (bVar 5) (bVar 9)))])) sNext))))))))
noncomputable def F_course_of : Fn := fnOf 2 11 B_course_of
theorem stepped_ok {m : Int} {ws s : List Int} (h : Wh m ws) (hs : Ok m ws.length s) : F_stepped [.val (.wheel m ws), .val (.ints s)] = some (.ints (stp m ws s)) := by
  have h0 : 0 < m := by have := h.lo; omega
  have e := vdot (r := ws) (s := s) (t := [some (.val (.wheel m ws)), some (.val (.ints s)), some (.int m), some (.val (.ints ws)), none, none]) (i := 3) (j := 1) (k := 4) (l := 5) rfl rfl (Nat.lt_of_lt_of_eq (by decide) (show 6 = _ from rfl)) (Nat.lt_of_lt_of_eq (by decide) (show 6 = _ from rfl)) (by decide) (big4 h.most) (rng_ok (m := m) (by have := h.hi; omega) h.rng hs.rng)
  have e2 := sl1_ints (bVar 1) [some (.val (.wheel m ws)), some (.val (.ints s)), some (.int m), some (.val (.ints ws)), none, none] s rfl
  have e3 : s.length - 1 + 1 ≤ big := by
    have := hs.len
    have := h.most
    show _ ≤ 100000
    omega
  have e4 : dBin .Add (.val (.ints (s.drop 1))) (.val (.nd .lst [D.int (dot ws s % m)])) = some (.ints (stp m ws s)) := cat_ints (xs := s.drop 1) (ys := [dot ws s % m]) rfl rfl (by rw [List.length_drop]; exact e3)
  unfold F_stepped B_stepped
  walk_at "fn"
  walk_at "st"
section
variable {m : Nat} {ws : List Int}
/-- the ladder of a wheel's steps -/
noncomputable abbrev ldr (m : Nat) (ws : List Int) (L : Nat) : List (List (List Int)) := (List.range L).map (lad (m : Int) (tbl (m : Int) ws))
theorem led_ldr (h : Wh (m : Int) ws) {L : Nat} {s : List Int} (hs : Ok (m : Int) ws.length s) {k : Nat} (hk : k < 2 ^ L) : ∃ o', F_led_on [.int (m : Int), .val (.mats (ldr m ws L)), .val (.ints s), .int (k : Int)] = some o' ∧ o'.toD = .ints (itr (stp m ws) k s) := by
  have h0 : 0 < (m : Int) := by have := h.lo; omega
  have hn : 0 < ws.length := h.len
  have sq := sq_tbl h0 hn h.rng
  obtain ⟨o', q1, q2, -⟩ := led_on_ok (o := .val (.ints s)) (k := k) h0 h.hi h.most (Ms := ldr m ws L) (fun M hM => by
    obtain ⟨i, _, rfl⟩ := List.mem_map.mp hM
    exact sq_lad h0 sq i) hs (toD_val _)
  refine ⟨o', q1, ?_⟩
  rw [q2]
  have := ledOn_lad h0 sq (f := stp (m : Int) ws) (fun s hs => act_tbl h0 hn hs) (fun s hs => ok_stp h0 hn hs) L 0 s k hs hk
  rw [← List.range_eq_range'] at this
  rw [this]
  congr 2
  omega
theorem lenP_go (h : Wh (m : Int) ws) {L l p B : Nat} {s : List Int} (hs : Ok (m : Int) ws.length s) (hB : B < 2 ^ L) (hp : 2 ≤ p) (hp2 : p < 1000000) (hl : ∀ d, itr (stp m ws) d s = s ↔ l ∣ d) (a3 a4 : Option O) : ∀ (f n : Nat), n ≤ f → 1 ≤ n → n ≤ B → sWhile W_length_of_1 W_length_of_2 [some (.int (m : Int)), some (.val (.mats (ldr m ws L))), some (.val (.ints s)), a3, a4, some (.int (n : Int)), some (.int (p : Int))] = some (.nx [some (.int (m : Int)), some (.val (.mats (ldr m ws L))), some (.val (.ints s)), a3, a4, some (.int (lessP l p f n : Int)), some (.int (p : Int))]) := by
  intro f
  induction f with
  | zero => intro n h1 h2; omega
  | succ f ih =>
    intro n hn n1 nB
    have d1 := divN (a := n) (b := p) (by omega) (le8 (by omega))
    have m1 := mod_nat (a := n) (b := p) (by omega)
    have c1 : dCmp .Eq (.int ((n % p : Nat) : Int)) (.int 0) = some (decide (n % p = 0)) := eq_natc _ 0
    have nq : n / p < n := Nat.div_lt_self (by omega) (by omega)
    obtain ⟨o', q1, q2⟩ := led_ldr h (L := L) hs (k := n / p) (by omega)
    have cnd : W_length_of_1 [some (.int (m : Int)), some (.val (.mats (ldr m ws L))), some (.val (.ints s)), a3, a4, some (.int (n : Int)), some (.int (p : Int))] = some (decide (n % p = 0) && decide (itr (stp m ws) (n / p) s = s)) := by
      unfold W_length_of_1
      walk_at "ev"
    have e : (decide (n % p = 0) && decide (itr (stp m ws) (n / p) s = s)) = decide (n % p = 0 ∧ n / p % l = 0) := by
      rw [← Bool.decide_and]
      apply decide_eq_decide.mpr
      rw [hl, Nat.dvd_iff_mod_eq_zero]
    rw [e] at cnd
    unfold lessP
    by_cases z : n % p = 0 ∧ n / p % l = 0
    · rw [if_pos z]
      have q0 : 1 ≤ n / p := Nat.div_pos (Nat.le_of_dvd n1 (Nat.dvd_of_mod_eq_zero z.1)) (by omega)
      refine while_turn (by rw [cnd, decide_eq_true z]) ?_ (ih (n / p) (by omega) q0 (by omega))
      unfold W_length_of_2
      walk_at "st"
    · rw [if_neg z]
      exact while_end (by rw [cnd, decide_eq_false z])
theorem lenL_go (h : Wh (m : Int) ws) {L l B : Nat} {s : List Int} (hs : Ok (m : Int) ws.length s) (hB : B < 2 ^ L) (l1 : 1 ≤ l) (hl : ∀ d, itr (stp m ws) d s = s ↔ l ∣ d) (a3 a4 : Option O) : ∀ (S : List Nat) (n : Nat) (x : Option O), (∀ q ∈ S, 2 ≤ q ∧ q < 1000000) → 1 ≤ n → n ≤ B → l ∣ n → ∃ x', forIn' (gN 6) W_length_of_3 (S.map fun (q : Nat) => D.int (q : Int)) [some (.int (m : Int)), some (.val (.mats (ldr m ws L))), some (.val (.ints s)), a3, a4, some (.int (n : Int)), x] = some (.nx [some (.int (m : Int)), some (.val (.mats (ldr m ws L))), some (.val (.ints s)), a3, a4, some (.int (lessL l S n : Int)), x'])
  | [], n, x, _, _, _, _ => ⟨x, rfl⟩
  | p :: S, n, x, hS, n1, nB, hd => by
    obtain ⟨p2, p6⟩ := hS p List.mem_cons_self
    obtain ⟨b1, b2, b3, _⟩ := lessP_ok l1 p2 n n (Nat.le_refl n) n1 hd
    have bB := Nat.le_of_dvd n1 b3
    obtain ⟨x', e⟩ := lenL_go h hs hB l1 hl a3 a4 S (lessP l p n n) (some (.int (p : Int))) (fun q hq => hS q (List.mem_cons_of_mem _ hq)) b1 (by omega) b2
    have w := lenP_go h hs hB p2 p6 hl a3 a4 n n (Nat.le_refl n) n1 nB
    refine ⟨x', for_cons (t1 := [some (.int (m : Int)), some (.val (.mats (ldr m ws L))), some (.val (.ints s)), a3, a4, some (.int (n : Int)), some (.int (p : Int))]) rfl ?_ e⟩
    unfold W_length_of_3
    exact seq_go w rfl
theorem length_of_ok (h : Wh (m : Int) ws) {L l B : Nat} {s : List Int} (hs : Ok (m : Int) ws.length s) (hB : B < 2 ^ L) (l1 : 1 ≤ l) (hl : ∀ d, itr (stp m ws) d s = s ↔ l ∣ d) {S : List Nat} (hS : ∀ q ∈ S, 2 ≤ q ∧ q < 1000000) (hB1 : 1 ≤ B) (hd : l ∣ B) (ha : ∀ q, PrimeN q → q ∣ B → q ∈ S) :
    F_length_of [.int (m : Int), .val (.mats (ldr m ws L)), .val (.ints s), .int (B : Int), .val (.ints (zs S))] = some (.int (l : Int)) := by
  obtain ⟨x', e⟩ := lenL_go h hs hB l1 hl (some (.int (B : Int))) (some (.val (.ints (zs S)))) S B none hS hB1 (Nat.le_refl B) hd
  rw [lessL_is l1 (fun p hp => (hS p hp).1) hB1 hd ha] at e
  have w := f_go (w := wSeq (bVar 4)) (t := [some (.int (m : Int)), some (.val (.mats (ldr m ws L))), some (.val (.ints s)), some (.int (B : Int)), some (.val (.ints (zs S))), some (.int (B : Int)), none]) (ds := S.map fun (q : Nat) => D.int (q : Int)) (by
    show some ((zs S).map D.int) = _
    rw [List.map_map]
    rfl) e
  unfold F_length_of B_length_of
  walk_at "fn"
  walk_at "st"
end
theorem toDs_len : ∀ os : List O, (O.toDs os).length = os.length
  | [] => rfl
  | o :: r => by rw [O.toDs, List.length_cons, toDs_len r, List.length_cons]
theorem led_own_go {m : Int} {n : Nat} (h0 : 0 < m) (hm : m ≤ 1000) (hn : n ≤ 4) : ∀ (Ms : List (List (List Int))) (s : List Int) (o : O) (k : Nat) (L : Option O) (x : Option O), (∀ M ∈ Ms, Sq m n M) → Ok m n s → o.toD = .ints s → 1 ≤ k → k < 2 ^ Ms.length → ∃ x' k',
    forIn' (gN 4) (sSeq (sIf (bT (vCmp .Eq (bFz (vBin .Mod (bVar 3) (bFz (vC (.int 2))))) (bFz (vC (.int 1))))) (sSeq (sAsg 2 (vCall F_led [(aPl (bVar 0)), (aPl (bVar 4)), (aPl (bVar 2))])) sNext) sNext) (sSeq (sAsg 3 (vBin .FloorDiv (bVar 3) (bFz (vC (.int 2))))) sNext)) (Ms.map D.mat)
      [some (.int m), L, some o, some (.int (k : Int)), x] = some (.nx [some (.int m), L, some (.ints (ledOn m Ms s k)), k', x'])
  | [], s, o, k, L, x, hM, hs, ho, k1, k2 => by
    simp only [List.length_nil, Nat.pow_zero] at k2
    omega
  | M :: Ms, s, o, k, L, x, hM, hs, ho, k1, k2 => by
    have hM1 := hM M List.mem_cons_self
    have hM2 := fun M' h => hM M' (List.mem_cons_of_mem M h)
    have cnd : vCmp .Eq (bFz (vBin .Mod (bVar 3) (bFz (vC (.int 2))))) (bFz (vC (.int 1))) [some (.int m), L, some o, some (.int (k : Int)), some (.val (D.mat M))] = some (.bl (decide (k % 2 = 1))) := by
      refine e_cmp (e_fz (e_bin rfl rfl (mod_e (by decide)))) rfl ?_
      show dEq (D.int ((k : Int) % 2)) (D.int 1) = _
      rw [dEq_int]
      congr 1
      by_cases h : k % 2 = 1
      · rw [decide_eq_true h, decide_eq_true (by omega)]
      · rw [decide_eq_false h, decide_eq_false (by omega)]
    have dv : ∀ o2 : O, sAsg 3 (vBin .FloorDiv (bVar 3) (bFz (vC (.int 2)))) [some (.int m), L, some o2, some (.int (k : Int)), some (.val (D.mat M))] = some (.nx [some (.int m), L, some o2, some (.int ((k / 2 : Nat) : Int)), some (.val (D.mat M))]) := fun o2 => by
      refine e_asg (o := .int ((k / 2 : Nat) : Int)) (e_bin rfl rfl ((div_e (by decide) (by decide)).trans ?_))
      congr 2
    by_cases h : k % 2 = 1
    · have cal : vCall F_led [(aPl (bVar 0)), (aPl (bVar 4)), (aPl (bVar 2))] [some (.int m), L, some o, some (.int (k : Int)), some (.val (D.mat M))] = some (.ints (act m M s)) := by
        refine e_callF (k := o.isVal) (os := [.int m, .val (.mat M), .val o.toD]) ?_ (by rw [ho]; exact led_ok h0 hm hn hM1 hs) rfl (allFlat_ints _)
        show some ([O.int m, .val (.mat M), .val o.toD], (true && (true && (o.isVal && true)))) = _
        simp
      obtain ⟨o', x', k', q1, q2, q3⟩ := led_on_go h0 hm hn Ms (act m M s) (.ints (act m M s)) (k / 2) L (some (.val (D.mat M))) hM2 (ok_act h0 hM1.len) (toD_ints _)
      refine ⟨x', k', ?_⟩
      unfold ledOn
      rw [if_pos h, ← q2 rfl]
      rw [List.map_cons]
      unfold forIn'
      rw [show gN 4 (D.mat M) [some (.int m), L, some o, some (.int (k : Int)), x] = some [some (.int m), L, some o, some (.int (k : Int)), some (.val (D.mat M))] from rfl, ob]
      rw [seq_go (t' := [some (.int m), L, some (.ints (act m M s)), some (.int (k : Int)), some (.val (D.mat M))]) (if_t (e_T (by rw [cnd, decide_eq_true h])) (seq_go (e_asg cal) rfl)) (seq_go (dv _) rfl)]
      exact q3
    · have k2' : k < 2 ^ Ms.length * 2 := by rw [← Nat.pow_succ]; exact k2
      obtain ⟨x', k', q3⟩ := led_own_go h0 hm hn Ms s o (k / 2) L (some (.val (D.mat M))) hM2 hs ho (by omega) (by omega)
      refine ⟨x', k', ?_⟩
      unfold ledOn
      rw [if_neg h]
      rw [List.map_cons]
      unfold forIn'
      rw [show gN 4 (D.mat M) [some (.int m), L, some o, some (.int (k : Int)), x] = some [some (.int m), L, some o, some (.int (k : Int)), some (.val (D.mat M))] from rfl, ob]
      rw [seq_go (t' := [some (.int m), L, some o, some (.int (k : Int)), some (.val (D.mat M))]) (if_f (e_T (by rw [cnd, decide_eq_false h])) rfl) (seq_go (dv _) rfl)]
      exact q3
theorem led_own {m : Nat} {ws : List Int} (h : Wh (m : Int) ws) {L : Nat} {s : List Int} (hs : Ok (m : Int) ws.length s) {k : Nat} (k1 : 1 ≤ k) (hk : k < 2 ^ L) : F_led_on [.int (m : Int), .val (.mats (ldr m ws L)), .val (.ints s), .int (k : Int)] = some (.ints (itr (stp m ws) k s)) := by
  have h0 : 0 < (m : Int) := by have := h.lo; omega
  have hn : 0 < ws.length := h.len
  have sq := sq_tbl h0 hn h.rng
  obtain ⟨x', k', q⟩ := led_own_go h0 h.hi h.most (ldr m ws L) s (.val (.ints s)) k (some (.val (.mats (ldr m ws L)))) none (fun M hM => by
    obtain ⟨i, _, rfl⟩ := List.mem_map.mp hM
    exact sq_lad h0 sq i) hs (toD_val _) k1 (by rw [List.length_map, List.length_range]; exact hk)
  have e := ledOn_lad h0 sq (f := stp (m : Int) ws) (fun s hs => act_tbl h0 hn hs) (fun s hs => ok_stp h0 hn hs) L 0 s k hs hk
  rw [← List.range_eq_range'] at e
  have e' : ledOn (m : Int) (ldr m ws L) s k = itr (stp m ws) k s := by
    rw [e]
    congr 1
    omega
  rw [e'] at q
  exact fn_rt rfl (seq_go (t' := [some (.int (m : Int)), some (.val (.mats (ldr m ws L))), some (.ints (itr (stp m ws) k s)), k', x']) (e_for rfl q) (seq_rt rfl))
section
variable {m : Nat} {ws b : List Int}
structure StL (m : Nat) (ws b : List Int) (os : List O) (i : Nat) : Prop where
  len : os.length = i + 1
  at' : ∀ j, j ≤ i → ∃ o, os[j]? = some o ∧ o.toD = .ints (itr (stp m ws) j b)
theorem child_at {os : List O} {o : O} {j : Nat} (h : os[j]? = some o) : (O.nd .lst os).child (j : Int) = some o := atI_nat h
theorem child_end {os : List O} {o : O} {i : Nat} (hl : os.length = i + 1) (h : os[i]? = some o) : (O.nd .lst os).child (-1) = some o := by
  have hne : os ≠ [] := fun z => by rw [z] at hl; cases hl
  show atI os (-1) = some o
  rw [atI_last' os hne, List.getLast_eq_getElem hne, ← h, List.getElem?_eq_getElem (by omega)]
  congr 2
  omega
theorem ok_it (h : Wh (m : Int) ws) (hb : Ok (m : Int) ws.length b) (i : Nat) : Ok (m : Int) ws.length (itr (stp m ws) i b) := ok_itr (by have := h.lo; omega) h.len hb i
theorem st_go (h : Wh (m : Int) ws) (hb : Ok (m : Int) ws.length b) {a1 a2 a3 a4 a7 a8 a9 a10 : Option O} : ∀ (c i : Nat) (os : List O) (x : Option O), StL m ws b os i → i + c ≤ 40 → ∃ os' x', StL m ws b os' (i + c) ∧ forIn' (gN 6) W_course_of_1 ((List.range' i c).map fun (i : Nat) => D.int (i : Int)) [some (.val (.wheel (m : Int) ws)), a1, a2, a3, a4, some (.nd .lst os), x, a7, a8, a9, a10] = some (.nx [some (.val (.wheel (m : Int) ws)), a1, a2, a3, a4, some (.nd .lst os'), x', a7, a8, a9, a10])
  | 0, i, os, x, hs, _ => ⟨os, x, hs, rfl⟩
  | c + 1, i, os, x, hs, hc => by
    obtain ⟨o, o1, o2⟩ := hs.at' i (Nat.le_refl i)
    have ce := child_end hs.len o1
    have s1 := stepped_ok h (ok_it h hb i)
    rw [← itr_succ (stp (m : Int) ws) i b] at s1
    have hl : os.length < big := by
      rw [hs.len]
      show _ < 100000
      omega
    have hs' : StL m ws b (os ++ [.val (.ints (itr (stp m ws) (i + 1) b))]) (i + 1) := by
      refine ⟨by rw [List.length_append, hs.len]; rfl, fun j hj => ?_⟩
      by_cases z : j ≤ i
      · obtain ⟨o, q1, q2⟩ := hs.at' j z
        exact ⟨o, by rw [List.getElem?_append_left (by rw [hs.len]; omega)]; exact q1, q2⟩
      · obtain rfl : j = i + 1 := by omega
        refine ⟨.val (.ints (itr (stp m ws) (i + 1) b)), ?_, rfl⟩
        rw [List.getElem?_append_right (by rw [hs.len]; omega), hs.len, Nat.sub_self]
        rfl
    obtain ⟨os', x', e1, e2⟩ := st_go h hb (a1 := a1) (a2 := a2) (a3 := a3) (a4 := a4) (a7 := a7) (a8 := a8) (a9 := a9) (a10 := a10) c (i + 1) _ (some (.int (i : Int))) hs' (by omega)
    refine ⟨os', x', by rw [show i + (c + 1) = i + 1 + c by omega]; exact e1, for_cons (t1 := [some (.val (.wheel (m : Int) ws)), a1, a2, a3, a4, some (.nd .lst os), some (.int (i : Int)), a7, a8, a9, a10]) rfl ?_ e2⟩
    unfold W_course_of_1
    walk_at "st"
theorem tail_go (h : Wh (m : Int) ws) (hb : Ok (m : Int) ws.length b) {L l T : Nat} {os : List O} (hos : StL m ws b os T) (l1 : 1 ≤ l) (hl : l < 2 ^ L) {a1 a2 a3 a4 a6 a10 : Option O} : ∀ t, t ≤ T → itr (stp m ws) (t + l) b = itr (stp m ws) t b → ∃ t', t' ≤ t ∧ itr (stp m ws) (t' + l) b = itr (stp m ws) t' b ∧ (t' = 0 ∨ itr (stp m ws) (t' - 1 + l) b ≠ itr (stp m ws) (t' - 1) b) ∧
    sWhile W_course_of_2 W_course_of_3 [some (.val (.wheel (m : Int) ws)), a1, a2, a3, a4, some (.nd .lst os), a6, some (.mats (ldr m ws L)), some (.int (l : Int)), some (.int (t : Int)), a10] = some (.nx [some (.val (.wheel (m : Int) ws)), a1, a2, a3, a4, some (.nd .lst os), a6, some (.mats (ldr m ws L)), some (.int (l : Int)), some (.int (t' : Int)), a10]) := by
  have htm := toD_mats (ldr m ws L)
  intro t
  induction t with
  | zero =>
    intro _ e
    refine ⟨0, Nat.le_refl 0, e, .inl rfl, while_end ?_⟩
    have c0 : dCmp .Gt (.int ((0 : Nat) : Int)) (.int 0) = some false := by rw [gt_e]; rfl
    unfold W_course_of_2
    refine r_band0 ?_
    walk_at "ev"
  | succ t ih =>
    intro ht e
    obtain ⟨o, o1, o2⟩ := hos.at' t (by omega)
    have ce := child_at o1
    have c1 : dCmp .Gt (.int ((t + 1 : Nat) : Int)) (.int 0) = some (decide (0 < t + 1)) := gt_nat (t + 1) 0
    have s1 : dBin .Sub (.int ((t + 1 : Nat) : Int)) (.int 1) = some (.int (t : Int)) := subN (a := t + 1) (b := 1) (by omega)
    have q1 := led_own h (L := L) (ok_it h hb t) l1 hl
    rw [← itr_add, Nat.add_comm l t] at q1
    have cnd : W_course_of_2 [some (.val (.wheel (m : Int) ws)), a1, a2, a3, a4, some (.nd .lst os), a6, some (.mats (ldr m ws L)), some (.int (l : Int)), some (.int ((t + 1 : Nat) : Int)), a10] = some (decide (0 < t + 1) && decide (itr (stp m ws) (t + l) b = itr (stp m ws) t b)) := by
      unfold W_course_of_2
      walk_at "ev"
    rw [decide_eq_true (show 0 < t + 1 by omega), Bool.true_and] at cnd
    by_cases z : itr (stp m ws) (t + l) b = itr (stp m ws) t b
    · obtain ⟨t', e1, e2, e3, e4⟩ := ih (by omega) z
      refine ⟨t', by omega, e2, e3, while_turn (by rw [cnd, decide_eq_true z]) ?_ e4⟩
      unfold W_course_of_3
      walk_at "st"
    · exact ⟨t + 1, Nat.le_refl _, e, .inr (by rw [Nat.add_sub_cancel]; exact z), while_end (by rw [cnd, decide_eq_false z])⟩
/-- the course of a beginning: what course_of tells -/
theorem course_of_ok (h : Wh (m : Int) ws) (hb : Ok (m : Int) ws.length b) : ∃ (T l : Nat) (ps : List Nat), Crs (fun k => itr (stp m ws) k b) T l ∧ T ≤ 40 ∧ l < 2 ^ 8000 ∧ ps.length < 64 ∧ GoodPr (zs ps) (l : Int) ∧ (∀ p, p ∈ ps ↔ PrimeN p ∧ p ∣ l) ∧
    F_course_of [.val (.wheel (m : Int) ws), .val (.ints b)] = some (.nd .tup [.int (T : Int), .int (l : Int), .ints (zs ps), .val (.ints (itr (stp m ws) T b))]) := by
  have h0 : 0 < (m : Int) := by have := h.lo; omega
  have m1 : 1 ≤ m := by omega
  obtain ⟨M, T, S, M1, M2, T4, hw, S1, S2, S3, S4, hr⟩ := round_parts_ok h
  have per := wants_round m1 h.len h.most hb hw
  have det := det_itr (stp (m : Int) ws) b
  obtain ⟨l, -, ⟨l1, l2⟩, l4⟩ := least (P := fun d => 1 ≤ d ∧ itr (stp (m : Int) ws) (T + d) b = itr (stp (m : Int) ws) T b) (n := M) ⟨M1, per⟩
  have pi := per_iff det l1 l2 fun j j1 j2 e => l4 j j2 ⟨j1, e⟩
  have hl : ∀ d, itr (stp (m : Int) ws) d (itr (stp (m : Int) ws) T b) = itr (stp (m : Int) ws) T b ↔ l ∣ d := fun d => by
    rw [← itr_add, Nat.add_comm d T]
    exact pi d
  have lM : l ∣ M := (pi M).mp per
  have lM' := Nat.le_of_dvd M1 lM
  obtain ⟨L, L1, L2, L3, L4⟩ := ladder_of_ok (B := 8000) h0 h.hi h.most (sq_tbl h0 h.len h.rng) M2 (by decide)
  have st0 : StL m ws b [.ints b] 0 := ⟨rfl, fun j hj => by
    obtain rfl : j = 0 := by omega
    exact ⟨.ints b, rfl, toD_ints b⟩⟩
  obtain ⟨os, x6, s1, s2⟩ := st_go h hb (a1 := some (.val (.ints b))) (a2 := some (.int (M : Int))) (a3 := some (.val (.ints (zs S)))) (a4 := some (.int (T : Int))) (a7 := none) (a8 := none) (a9 := none) (a10 := none) T 0 [.ints b] none st0 (by omega)
  rw [Nat.zero_add] at s1
  have w1 := f_go (w := wRange1 (bVar 4)) (wr1' (n := T) rfl (by unfold big; omega)) s2
  have lo := length_of_ok h (ok_it h hb T) L2 l1 hl (fun q hq => ⟨(S3 q hq).1.1, (S3 q hq).2⟩) M1 lM S4
  obtain ⟨t, t1, t2, t3, t4⟩ := tail_go h hb (L := L) s1 l1 (by omega) (a1 := some (.val (.ints b))) (a2 := some (.int (M : Int))) (a3 := some (.val (.ints (zs S)))) (a4 := some (.int (T : Int))) (a6 := x6) (a10 := none) T (Nat.le_refl T) l2
  have crs := crs_mk det l1 t1 pi t2 t3
  obtain ⟨oT, oT1, oT2⟩ := s1.at' T (Nat.le_refl T)
  obtain ⟨ot, ot1, ot2⟩ := s1.at' t t1
  have ce := child_end s1.len oT1
  have tb := table_of_ok h
  have tm := toD_mats (ldr m ws L)
  have hmem : ∀ p, p ∈ S.filter (fun q => decide (l % q = 0)) ↔ PrimeN p ∧ p ∣ l := fun p => by
    rw [List.mem_filter, decide_eq_true_eq]
    constructor
    · rintro ⟨a, c⟩
      exact ⟨(S3 p a).1, Nat.dvd_of_mod_eq_zero c⟩
    · rintro ⟨a, c⟩
      exact ⟨S4 p a (Nat.dvd_trans c lM), Nat.mod_eq_zero_of_dvd c⟩
  refine ⟨t, l, S.filter (fun q => decide (l % q = 0)), crs, by omega, by omega, Nat.lt_of_le_of_lt (List.length_filter_le _ _) S2, ?_, hmem, ?_⟩
  · refine ⟨by omega, fun x hx => ?_, ?_, fun p => ?_⟩
    · obtain ⟨q, hq, rfl⟩ := List.mem_map.mp hx
      have := S3 q (List.mem_filter.mp hq).1
      have := this.1.1
      omega
    · rw [List.pairwise_map]
      exact (S1.filter _).imp fun {a b} z => by omega
    · rw [Int.toNat_natCast, ← hmem p, List.mem_map]
      constructor
      · rintro ⟨q, hq, e⟩
        have : q = p := by omega
        rw [← this]; exact hq
      · intro hp
        exact ⟨p, hp, rfl⟩
  · have cT : (O.val (.nd .lst (O.toDs os))).child (t : Int) = some (.val (.ints (itr (stp m ws) t b))) := by
      refine child_lst ?_
      have : ∀ (os : List O) (j : Nat) (o : O), os[j]? = some o → (O.toDs os)[j]? = some o.toD := by
        intro os
        induction os with
        | nil => intro j o z; cases z
        | cons y r ih =>
          intro j o z
          rw [O.toDs]
          cases j with
          | zero =>
            have : y = o := by simpa using z
            rw [this]; rfl
          | succ j => exact ih j o (by simpa using z)
      rw [this os t ot ot1, ot2]
    have lc : vLc (wSeq (bVar 3)) [10] (gN 10) (bT (vCmp .Eq (bFz (vBin .Mod (bVar 8) (bVar 10))) (bFz (vC (.int 0))))) (vOf (bVar 10)) [some (.val (.wheel (m : Int) ws)), some (.val (.ints b)), some (.int (M : Int)), some (.val (.ints (zs S))), some (.int (T : Int)), some (.val (.nd .lst (O.toDs os))), x6.map O.fz, some (.val (.mats (ldr m ws L))), some (.int (l : Int)), some (.int (t : Int)), none] = some (.ints (zs (S.filter (fun q => decide (l % q = 0))))) := by
      have := vLc_mapF (w := wSeq (bVar 3)) (own := [10]) (g := gN 10) (c := bT (vCmp .Eq (bFz (vBin .Mod (bVar 8) (bVar 10))) (bFz (vC (.int 0))))) (e := vOf (bVar 10)) (t := [some (.val (.wheel (m : Int) ws)), some (.val (.ints b)), some (.int (M : Int)), some (.val (.ints (zs S))), some (.int (T : Int)), some (.val (.nd .lst (O.toDs os))), x6.map O.fz, some (.val (.mats (ldr m ws L))), some (.int (l : Int)), some (.int (t : Int)), none]) (xs := S) (φ := fun (q : Nat) => D.int (q : Int)) (ψ := fun (q : Nat) => D.int (q : Int)) (k := fun q => decide (l % q = 0)) (by
          show some ((zs S).map D.int) = _
          rw [List.map_map]
          rfl) (Nat.le_of_lt (Nat.lt_trans S2 (by decide))) (fun q hq => by
          have q2 := (S3 q hq).1.1
          show (bT (vCmp .Eq (bFz (vBin .Mod (bVar 8) (bVar 10))) (bFz (vC (.int 0))))) [some (.val (.wheel (m : Int) ws)), some (.val (.ints b)), some (.int (M : Int)), some (.val (.ints (zs S))), some (.int (T : Int)), some (.val (.nd .lst (O.toDs os))), x6.map O.fz, some (.val (.mats (ldr m ws L))), some (.int (l : Int)), some (.int (t : Int)), some (.int (q : Int))] = _
          have c1 := mod_nat (a := l) (b := q) (by omega)
          have c2 : dCmp .Eq (.int ((l % q : Nat) : Int)) (.int 0) = some (decide (l % q = 0)) := eq_natc _ 0
          walk_at "ev") (fun q hq _ => rfl)
      rw [this]
      show _ = some (O.nd .lst ((zs _).map O.int))
      rw [List.map_map]
      rfl
    have tos := toD_nd .lst os
    unfold F_course_of B_course_of
    walk_at "fn"
    walk_at "st"
end
end Den

/-! PE -/
namespace Den
open PySem L2 Mt
local macro_rules | `(tactic| walk_at "den") => `(tactic| (all_goals (try simp only [fnOf, sSeq, sFz, sAsg, sPar, sUnp, sDrop, sRet, sRetN, sIf, sNext, sNever, sPut, sApp, sMod, modAt, mApp, mPut, fzAt, fzAll, vAll, setAll, gN, gT, gSet, wipeT, vOf, bFz, vC, v1, v2, vBin, vNeg, vCmp, vChain, vAnd, vOr, vNot, bT, bAnd, bOr, bNot, vIf, bIx, dIx, O.isDict, vSl, opI, vNd, vCall, aAll, aPl, aNp, aMv, wSeq, wRange1, wRange2, wRange3, wZip, wEnum, bVar, bYes, dBin, dSub, dMod, dFdiv, dPow, dShl, dShr, i2, dNeg, dCmp, c2, dIs, dInt, dAbs, dMax, dMin, O.child, O.fz, O.toD, O.toDs, O.isVal, O.int?, O.bl?, O.v?, O.allFlat, O.allFlats, ob, om, Option.map_some, Option.bind_some, Option.map_none, Option.bind_none, Option.join_some, Option.join_none, List.length_cons, List.length_nil, List.map_cons, List.map_nil, List.replicate, List.cons_append, List.nil_append, List.getElem?_cons_zero, List.getElem?_cons_succ, List.set_cons_zero, List.set_cons_succ, if_true, if_false, Bool.false_eq_true, reduceIte, Nat.reduceAdd, Nat.reduceSub, Nat.reduceEqDiff, Bool.not_true, Bool.not_false, Bool.and_true, Bool.true_and, Bool.and_false, Bool.false_and, List.all_cons, List.all_nil, true_or, or_true, true_and, and_true, O.ty, dIsB, dAll, dAny, dSum, dLen, dList, dTuple, O.top, O.vals?, dSl, dAdd, dMul, ints?_map, ints?_map', bls?_map, bls?_map', toDs_map', vals_map', toDs_ints, vals_map, toDs_vals, List.length_map, dEq_int, dEq_ints, dEq_bl, cut_map, decide_true, decide_false, decide_eq_true_eq, Bool.not_eq_true', kit_ii, kit_ib, kit_ll, kit_tt, allFlats_ints, vals_mapI, Int.cast_ofNat_Int, Int.reduceAdd, Int.reduceSub, Int.reduceMul, Int.reduceNeg, Int.reduceLT, Int.reduceLE, Int.reduceEq, Int.reduceMod, Int.reduceDiv, Int.reducePow, Int.reduceToNat, Nat.reduceMul, Nat.reducePow, Nat.reduceLeDiff, Nat.reduceLT, decide_not, Int.ofNat_one, Int.ofNat_zero, ne_eq, not_true, not_false_iff, Int.reduceNe])))
local macro_rules | `(tactic| walk_at "sd") => `(tactic| first | with_reducible assumption | omega | decide)
local macro_rules | `(tactic| walk_at "toD") => `(tactic| first | with_reducible exact toD_val _ | with_reducible exact toD_ints _ | with_reducible exact toD_mat _ | with_reducible exact toD_wo _ _ | ((with_reducible apply toD_n); walk_at "toDs") | walk_at "leaf")
local macro_rules | `(tactic| walk_at "toDs") => `(tactic| first | with_reducible exact toDs_0 | with_reducible exact toDs_ints _ | with_reducible exact toDs_vals _ | with_reducible exact toDs_map' _ _ | ((with_reducible apply toDs_1); walk_at "toD"; walk_at "toDs"))
local macro_rules | `(tactic| walk_at "leaf") => `(tactic| with_reducible assumption)
local macro_rules | `(tactic| walk_at "op") => `(tactic| first | walk_at "leaf" | with_reducible exact add_e _ _ | with_reducible exact sub_e _ _ | exact mod_e (by walk_at "sd") | exact div_e (by walk_at "sd") (by walk_at "sd") | exact mul_e (by walk_at "sd") | exact mulL_ints _ _ (by walk_at "sd") (by walk_at "sd") | exact cat_ints (xs := _) (ys := _) (by walk_at "top") (by walk_at "top") (by walk_at "sd") | exact pow_e (by walk_at "sd") (by walk_at "sd") | walk_at "leaf")
local macro_rules | `(tactic| walk_at "top") => `(tactic| first | exact top_ints _ | exact top_vints _ | exact rfl)
local macro_rules | `(tactic| walk_at "cmp") => `(tactic| first | with_reducible assumption | with_reducible exact lt_e _ _ | with_reducible exact le_e _ _ | with_reducible exact gt_e _ _ | with_reducible exact ge_e _ _ | with_reducible exact eq_e _ _ | with_reducible exact ne_e _ _ | with_reducible exact is_bl _ _ | with_reducible exact nis_bl _ _ | ((with_reducible apply co_eq); walk_at "toD"; walk_at "toD"; walk_at "deq") | ((with_reducible apply co_ne); walk_at "toD"; walk_at "toD"; walk_at "deq") | walk_at "leaf")
local macro_rules | `(tactic| walk_at "deq") => `(tactic| first | walk_at "leaf" | exact dEq_ints _ _ | with_reducible exact dEq_wheel _ _ _ _ | exact dEq_bl _ _ | exact dEq_int _ _ | walk_at "leaf")
local macro_rules | `(tactic| walk_at "as") => `(tactic| first | with_reducible exact as_0 | ((with_reducible apply as_1); (first | ((with_reducible apply r_pl); walk_at "ev"; walk_at "toD"; exact rfl) | ((with_reducible apply r_np); walk_at "ev"; walk_at "toD") | ((with_reducible apply r_mv); walk_at "ev")); walk_at "as"))
local macro_rules | `(tactic| walk_at "all") => `(tactic| first | with_reducible exact all_0 | ((with_reducible apply all_1); walk_at "ev"; walk_at "all"))
local macro_rules | `(tactic| walk_at "ev") => `(tactic| first
  | with_reducible assumption
  | ((with_reducible apply r_var); walk_at "at")
  | with_reducible exact r_c
  | ((with_reducible apply r_fz); walk_at "ev"; walk_at "toD")
  | ((with_reducible apply r_of); walk_at "ev")
  | ((with_reducible apply e_bin); walk_at "ev"; walk_at "ev"; walk_at "op")
  | ((with_reducible apply r_cmp); walk_at "ev"; walk_at "ev"; walk_at "cmp")
  | ((with_reducible apply e_ix); walk_at "ev"; walk_at "ev"; walk_at "child")
  | ((with_reducible apply r_call); walk_at "as"; walk_at "leaf"; (first | exact .inl rfl | exact .inr ⟨rfl, rfl⟩ | exact .inr ⟨rfl, allFlat_ints _⟩ | exact .inr ⟨rfl, by walk_at "leaf"⟩))
  | ((with_reducible apply r_meth); walk_at "ev"; walk_at "leaf"; walk_at "leaf"; walk_at "leaf"; exact rfl; walk_at "ev")
  | ((with_reducible apply r_fld); walk_at "ev"; walk_at "leaf")
  | ((with_reducible apply r_T); walk_at "ev")
  | ((with_reducible apply r_bnot); walk_at "ev")
  | ((with_reducible apply r_band0); (with_reducible apply r_T); (with_reducible apply r_var); walk_at "at")
  | ((with_reducible apply r_bor1); (with_reducible apply r_T); (with_reducible apply r_var); walk_at "at")
  | ((with_reducible apply r_bor); walk_at "ev"; (intro hk; walk_at "ev"))
  | ((with_reducible apply r_band); walk_at "ev"; (intro hk; walk_at "ev"))
  | ((with_reducible apply r_or); walk_at "ev"; (intro hk; walk_at "ev"))
  | ((with_reducible apply r_and); walk_at "ev"; (intro hk; walk_at "ev"))
  | ((with_reducible apply r_not); walk_at "ev")
  | ((with_reducible apply r_neg); walk_at "ev")
  | ((with_reducible apply r_chain); walk_at "ev"; walk_at "ev"; walk_at "cmp"; (intro hk; walk_at "ev"); (intro hk; walk_at "cmp"))
  | ((with_reducible apply r_sl); walk_at "ev"; (first | with_reducible exact r_opn | (apply r_ops; walk_at "ev")); (first | with_reducible exact r_opn | (apply r_ops; walk_at "ev")); walk_at "leaf")
  | ((with_reducible apply e_nd); walk_at "all"; exact Nat.le_of_ble_eq_true rfl)
  | ((with_reducible apply e_v1); walk_at "ev"; walk_at "un")
  | ((with_reducible apply e_v2); walk_at "ev"; walk_at "ev"; walk_at "leaf")
  | walk_at "leaf")
local macro_rules | `(tactic| walk_at "un") => `(tactic| first | walk_at "leaf" | exact len_ints _ | exact list_ints _ | exact dRev_ints _ | exact dInt_bl _ | walk_at "leaf")
local macro_rules | `(tactic| walk_at "child") => `(tactic| first | walk_at "leaf" | with_reducible exact wheel_m _ _ | with_reducible exact wheel_w _ _ | exact child_ints (j := 0) (by walk_at "sd"))
local macro_rules | `(tactic| walk_at "set") => `(tactic| first | with_reducible exact l_set0 | ((with_reducible apply l_setS); walk_at "set"))
local macro_rules | `(tactic| walk_at "at") => `(tactic| first | with_reducible exact l_at0 | ((with_reducible apply l_atS); walk_at "at"))
local macro_rules | `(tactic| walk_at "fz") => `(tactic| first | with_reducible exact fz_0 | ((with_reducible apply fz_1); walk_at "at"; walk_at "toD"; walk_at "set"; walk_at "fz") | ((with_reducible apply fz_n); walk_at "at"; walk_at "fz"))
local macro_rules | `(tactic| walk_at "fa") => `(tactic| first | with_reducible exact fa_0 | ((with_reducible apply fa_n); walk_at "fa") | ((with_reducible apply fa_s); walk_at "toD"; walk_at "fa") | ((with_reducible apply fa_x); walk_at "fa"))
local macro_rules | `(tactic| walk_at "gt") => `(tactic| first | with_reducible exact gt_0 | ((with_reducible apply gt_1); walk_at "set"; walk_at "gt"))
local macro_rules | `(tactic| walk_at "sa") => `(tactic| first | with_reducible exact sa_0 | ((with_reducible apply sa_1); walk_at "set"; walk_at "sa"))
local macro_rules | `(tactic| walk_at "kt") => `(tactic| first | with_reducible assumption | exact rfl | (focus ((simp only [Bool.or_eq_true, Bool.and_eq_true, Bool.or_eq_false_iff, Bool.and_eq_false_iff, Bool.not_eq_true', Bool.not_eq_false', decide_eq_true_eq, decide_eq_false_iff_not, Bool.not_true, Bool.not_false, Bool.true_or, Bool.or_true, Bool.false_or, Bool.or_false, Bool.true_and, Bool.and_true, Bool.false_and, Bool.and_false, Bool.false_eq_true, Bool.true_eq_false, not_false_iff, true_and, and_true, or_true, true_or, false_or, or_false]) <;> omega)) | (focus (simp only [*, Bool.not_true, Bool.not_false, Bool.true_or, Bool.or_true, Bool.false_or, Bool.or_false, Bool.true_and, Bool.and_true, Bool.false_and, Bool.and_false, decide_true, decide_false]; done)) | walk_at "leaf")
local macro_rules | `(tactic| walk_at "ini") => `(tactic| ((simp only [List.map_cons, List.map_nil, List.cons_append, List.nil_append, List.replicate, Nat.reduceSub]); try exact rfl))
local macro_rules | `(tactic| walk_at "fn") => `(tactic| ((with_reducible apply fn_go); exact rfl; walk_at "ini"))
local macro_rules | `(tactic| walk_at "fnn") => `(tactic| ((with_reducible apply fn_gn); exact rfl; walk_at "ini"))
local macro_rules | `(tactic| walk_at "st") => `(tactic| first
  | with_reducible exact nx_rfl
  | ((with_reducible apply seq_nx); walk_at "st")
  | ((with_reducible apply seq_assoc); walk_at "st")
  | ((with_reducible apply seq_if); walk_at "ev"; first | (refine .inl ⟨?_, ?_⟩; walk_at "kt"; walk_at "st") | (refine .inr ⟨?_, ?_⟩; walk_at "kt"; walk_at "st"))
  | ((with_reducible apply seq_fz); walk_at "fz"; walk_at "st")
  | ((with_reducible apply seq_rt); first | ((with_reducible apply s_ret); walk_at "fa"; walk_at "ev") | ((with_reducible apply s_retN); walk_at "at"))
  | ((with_reducible apply seq_go); walk_at "s1"; walk_at "st"))
local macro_rules | `(tactic| walk_at "s1") => `(tactic| first
  | ((with_reducible apply s_asg); walk_at "ev"; walk_at "set")
  | ((with_reducible apply s_drop); walk_at "ev")
  | ((with_reducible apply s_par); walk_at "all"; walk_at "sa")
  | ((with_reducible apply s_unp); walk_at "ev"; (with_reducible apply gt_t); walk_at "gt")
  | ((with_reducible apply s_app); walk_at "ev"; walk_at "toD"; walk_at "at"; walk_at "sd"; walk_at "set")
  | walk_at "leaf")
noncomputable def F_Course : Fn := fnI "Course" 3 4 ["tail", "length", "primes"] [(vOf (bVar 1)), (vOf (bVar 2)), (v1 dList (bVar 3))]
noncomputable def B_course : SE := (sSeq (sDrop (vCall F_check_wheel [(aPl (bVar 0))])) (sSeq (sDrop (vCall F_check_beginning [(aPl (bVar 0)), (aPl (bVar 1))])) (sSeq (sUnp [2, 3, 4, 5] (bFz (vCall F_course_of [(aPl (bVar 0)), (aPl (bVar 1))]))) (sSeq (sRet (vCall F_Course [(aPl (bVar 2)), (aPl (bVar 3)), (aPl (bVar 4))])) sNext))))
noncomputable def F_course : Fn := fnOf 2 6 B_course
noncomputable def B_Course_shows : SE := (sSeq (sIf (bOr (bT (vCmp .Lt (bFldC ["Course"] "tail" (bVar 0)) (bFz (vC (.int 0))))) (bOr (bT (vCmp .Lt (bFldC ["Course"] "length" (bVar 0)) (bFz (vC (.int 1))))) (bNot (bT (bFz (vCall F_are_primes_of [(aPl (bFldC ["Course"] "primes" (bVar 0))), (aPl (bFldC ["Course"] "length" (bVar 0)))])))))) (sSeq (sRet (vC (.bl false))) sNext) sNext) (sSeq (sAsg 3 (vCall F_state_of [(aPl (bVar 1)), (aPl (bVar 2)), (aPl (bFldC ["Course"] "tail" (bVar 0)))])) (sSeq (sIf (bT (vCmp .NotEq (bFz (vCall F_state_of [(aPl (bVar 1)), (aPl (bVar 3)), (aPl (bFldC ["Course"] "length" (bVar 0)))])) (bVar 3))) (sSeq (sRet (vC (.bl false))) sNext) sNext) (sSeq (sIf (bT (bFz (v1 dAny2 (bFz (vLc (wTop (bFldC ["Course"] "primes" (bVar 0))) [4] (gN 4) bYes (vCmp .Eq (bFz (vCall F_state_of [(aPl (bVar 1)), (aPl (bVar 3)), (aNp (vBin .FloorDiv (bFldC ["Course"] "length" (bVar 0)) (bVar 4)))])) (bVar 3))))))) (sSeq (sRet (vC (.bl false))) sNext) sNext) (sSeq (sIf (bT (vCmp .Eq (bFldC ["Course"] "tail" (bVar 0)) (bFz (vC (.int 0))))) (sSeq (sRet (vC (.bl true))) sNext) sNext) (sSeq (sAsg 3 (vCall F_state_of [(aPl (bVar 1)), (aPl (bVar 2)), (aNp (vBin .Sub (bFldC ["Course"] "tail" (bVar 0)) (bFz (vC (.int 1)))))])) (sSeq (sRet (vCmp .NotEq (bFz (vCall F_state_of [(aPl (bVar 1)), (aPl (bVar 3)), (aPl (bFldC ["Course"] "length" (bVar 0)))])) (bVar 3))) sNext)))))))
noncomputable def F_Course_shows : Fn := fnOf 3 5 B_Course_shows
abbrev D.crs (T L : Int) (ps : List Int) : D := .nd (.ins "Course" ["tail", "length", "primes"]) [.int T, .int L, .ints ps]
abbrev O.crs (T L : Int) (ps : List Int) : O := .nd (.ins "Course" ["tail", "length", "primes"]) [.int T, .int L, .ints ps]
theorem toD_crs (T L : Int) (ps : List Int) : (O.crs T L ps).toD = .crs T L ps := by
  show D.nd _ [_, _, (O.ints ps).toD] = _
  rw [toD_ints]
  rfl
theorem f_tail (T L : Int) (ps : List Int) : O.fieldC ["Course"] "tail" (.val (.crs T L ps)) = some (.int T) := by kernel_rfl
theorem f_length (T L : Int) (ps : List Int) : O.fieldC ["Course"] "length" (.val (.crs T L ps)) = some (.int L) := by kernel_rfl
theorem f_primes (T L : Int) (ps : List Int) : O.fieldC ["Course"] "primes" (.val (.crs T L ps)) = some (.val (.ints ps)) := by kernel_rfl
theorem Course_ok (T L : Int) (ps : List Int) : F_Course [.int T, .int L, .val (.ints ps)] = some (.crs T L ps) := by
  have e := list_ints ps
  unfold F_Course fnI
  rw [if_pos ⟨rfl, rfl, by decide +kernel, by decide⟩]
  show ((vAll [(vOf (bVar 1)), (vOf (bVar 2)), (v1 dList (bVar 3))] [none, some (.int T), some (.int L), some (.val (.ints ps))]).map _) = _
  have : vAll [(vOf (bVar 1)), (vOf (bVar 2)), (v1 dList (bVar 3))] [none, some (.int T), some (.int L), some (.val (.ints ps))] = some [.int T, .int L, .ints ps] := by walk_at "all"
  rw [this]
  rfl
theorem course_ok {m : Nat} {ws b : List Int} (h : Wh (m : Int) ws) (hb : Ok (m : Int) ws.length b) : ∃ (T l : Nat) (ps : List Nat), Crs (fun k => itr (stp m ws) k b) T l ∧ T ≤ 40 ∧ l < 2 ^ 8000 ∧ ps.length < 64 ∧ GoodPr (zs ps) (l : Int) ∧ (∀ p, p ∈ ps ↔ PrimeN p ∧ p ∣ l) ∧
    F_course [.val (.wheel (m : Int) ws), .val (.ints b)] = some (.crs (T : Int) (l : Int) (zs ps)) := by
  obtain ⟨T, l, ps, c1, c2, c3, c4, c5, c6, c7⟩ := course_of_ok h hb
  refine ⟨T, l, ps, c1, c2, c3, c4, c5, c6, ?_⟩
  have e1 := check_wheel_ok h
  have e2 := check_beginning_ok h hb
  have e3 := Course_ok (T : Int) (l : Int) (zs ps)
  unfold F_course B_course
  walk_at "fn"
  walk_at "st"
theorem shows_no {m : Nat} {ws b : List Int} {T L : Int} {ps : List Int} (h : T < 0 ∨ L < 1) : F_Course_shows [.val (.crs T L ps), .val (.wheel (m : Int) ws), .val (.ints b)] = some (.bl false) := by
  have f1 := f_tail T L ps
  have f2 := f_length T L ps
  unfold F_Course_shows B_Course_shows
  refine fn_go rfl (t := [some (.val (.crs T L ps)), some (.val (.wheel (m : Int) ws)), some (.val (.ints b)), none, none]) rfl (seq_if (k := true) ?_ (.inl ⟨rfl, by walk_at "st"⟩))
  by_cases z : T < 0
  · have c : dCmp .Lt (.int T) (.int 0) = some true := by rw [lt_e, decide_eq_true z]
    refine r_bor1 ?_
    walk_at "ev"
  · have c : dCmp .Lt (.int T) (.int 0) = some false := by rw [lt_e, decide_eq_false z]
    have c2 : dCmp .Lt (.int L) (.int 1) = some true := by rw [lt_e, decide_eq_true (by omega)]
    refine bOr_f (by walk_at "ev") (r_bor1 ?_)
    walk_at "ev"
theorem good_nat {ps : List Int} {L : Nat} (h : GoodPr ps (L : Int)) (p : Nat) : p ∈ ps.map Int.toNat ↔ PrimeN p ∧ p ∣ L := by
  have := h.2.2.2 p
  rw [Int.toNat_natCast] at this
  rw [← this, List.mem_map]
  constructor
  · rintro ⟨x, hx, e⟩
    have := h.2.1 x hx
    have e' : x = (p : Int) := by omega
    rw [← e']; exact hx
  · intro hp
    exact ⟨(p : Int), hp, Int.toNat_natCast p⟩
open Classical in
theorem shows_ok {m : Nat} {ws b : List Int} (h : Wh (m : Int) ws) (hb : Ok (m : Int) ws.length b) {T L B : Nat} {ps : List Int} (hT : T < 2 ^ B) (hL : L < 2 ^ B) (hB : B ≤ 50000) (hp : ps.length ≤ big) (L1 : 1 ≤ L) :
    F_Course_shows [.val (.crs (T : Int) (L : Int) ps), .val (.wheel (m : Int) ws), .val (.ints b)] = some (.bl (decide (GoodPr ps (L : Int) ∧ Crs (fun k => itr (stp m ws) k b) T L))) := by
  have f1 := f_tail (T : Int) (L : Int) ps
  have f2 := f_length (T : Int) (L : Int) ps
  have f3 := f_primes (T : Int) (L : Int) ps
  have c1 : dCmp .Lt (.int (T : Int)) (.int 0) = some false := by rw [lt_e, decide_eq_false (by omega)]
  have c2 : dCmp .Lt (.int (L : Int)) (.int 1) = some false := by rw [lt_e, decide_eq_false (by omega)]
  have ap := are_primes_of_ok (ps := ps) (n := (L : Int)) hp (by omega)
  have det := det_itr (stp (m : Int) ws) b
  by_cases g : GoodPr ps (L : Int)
  · rw [decide_eq_true g] at ap
    have hg := good_nat g
    have cs := crs_shows det (T := T) L1 hg
    have s1 := state_of_ok (k := T) h hb hT hB
    have okT := ok_it h hb T
    have s2 := state_of_ok (k := L) h okT hL hB
    have e4 : bFz (vLc (wTop (bFldC ["Course"] "primes" (bVar 0))) [4] (gN 4) bYes (vCmp .Eq (bFz (vCall F_state_of [(aPl (bVar 1)), (aPl (bVar 3)), (aNp (vBin .FloorDiv (bFldC ["Course"] "length" (bVar 0)) (bVar 4)))])) (bVar 3))) [some (.val (.crs (T : Int) (L : Int) ps)), some (.val (.wheel (m : Int) ws)), some (.val (.ints b)), some (.ints (itr (stp m ws) T b)), none] = some (.val (.nd .lst (ps.map fun p => D.bl (decide (itr (stp m ws) (L / p.toNat) (itr (stp m ws) T b) = itr (stp m ws) T b))))) := by
      refine lcz ps D.int _ ?_ hp fun p hp' => ⟨[some (.val (.crs (T : Int) (L : Int) ps)), some (.val (.wheel (m : Int) ws)), some (.val (.ints b)), some (.ints (itr (stp m ws) T b)), some (.int p)], .bl (decide (itr (stp m ws) (L / p.toNat) (itr (stp m ws) T b) = itr (stp m ws) T b)), rfl, ?_, rfl⟩
      · have : bFldC ["Course"] "primes" (bVar 0) [some (.val (.crs (T : Int) (L : Int) ps)), some (.val (.wheel (m : Int) ws)), some (.val (.ints b)), some (.ints (itr (stp m ws) T b)), none] = some (.val (.ints ps)) := by walk_at "ev"
        unfold wTop
        rw [this]
        rfl
      · have g1 := g.2.1 p hp'
        have pe : ((p.toNat : Nat) : Int) = p := Int.toNat_of_nonneg (by omega)
        have d1 := divN (a := L) (b := p.toNat) (by omega) (le8 (by omega))
        rw [pe] at d1
        have s3 := state_of_ok (k := L / p.toNat) h okT (Nat.lt_of_le_of_lt (Nat.div_le_self _ _) hL) hB
        walk_at "ev"
    have e5 := any_bl ps fun p => decide (itr (stp (m : Int) ws) (L / p.toNat) (itr (stp (m : Int) ws) T b) = itr (stp (m : Int) ws) T b)
    have xL : itr (stp (m : Int) ws) L (itr (stp (m : Int) ws) T b) = itr (stp (m : Int) ws) (T + L) b := by rw [← itr_add, Nat.add_comm]
    by_cases z1 : itr (stp (m : Int) ws) L (itr (stp (m : Int) ws) T b) = itr (stp (m : Int) ws) T b
    · by_cases z2 : (ps.any fun p => decide (itr (stp (m : Int) ws) (L / p.toNat) (itr (stp (m : Int) ws) T b) = itr (stp (m : Int) ws) T b)) = true
      · have no : decide (GoodPr ps (L : Int) ∧ Crs (fun k => itr (stp m ws) k b) T L) = false := decide_eq_false fun ⟨_, w⟩ => by
          obtain ⟨p, hp', e⟩ := List.any_eq_true.mp z2
          refine (cs.mp w).2.1 p.toNat (List.mem_map.mpr ⟨p, hp', rfl⟩) ?_
          show itr (stp (m : Int) ws) (T + L / p.toNat) b = _
          rw [Nat.add_comm, itr_add]
          exact of_decide_eq_true e
        rw [no]
        rw [z2] at e5
        unfold F_Course_shows B_Course_shows
        walk_at "fn"
        walk_at "st"
      · rw [Bool.not_eq_true] at z2
        have a1 : itr (stp (m : Int) ws) (T + L) b = itr (stp (m : Int) ws) T b := by rw [← xL]; exact z1
        have a2 : ∀ p ∈ ps.map Int.toNat, itr (stp (m : Int) ws) (T + L / p) b ≠ itr (stp (m : Int) ws) T b := fun p hp' e => by
          obtain ⟨x, hx, rfl⟩ := List.mem_map.mp hp'
          have := List.any_eq_false.mp z2 x hx
          apply this
          rw [decide_eq_true_eq, ← itr_add, Nat.add_comm]
          exact e
        rw [z2] at e5
        by_cases t0 : T = 0
        · have yes : decide (GoodPr ps (L : Int) ∧ Crs (fun k => itr (stp m ws) k b) T L) = true := decide_eq_true ⟨g, cs.mpr ⟨a1, a2, .inl t0⟩⟩
          rw [yes]
          have c3 : dCmp .Eq (.int (T : Int)) (.int 0) = some true := by rw [eq_e, decide_eq_true (by omega)]
          unfold F_Course_shows B_Course_shows
          walk_at "fn"
          walk_at "st"
        · have c3 : dCmp .Eq (.int (T : Int)) (.int 0) = some false := by rw [eq_e, decide_eq_false (by omega)]
          have d2 : dBin .Sub (.int (T : Int)) (.int 1) = some (.int ((T - 1 : Nat) : Int)) := subN (a := T) (b := 1) (by omega)
          have s4 := state_of_ok (k := T - 1) h hb (by omega) hB
          have s5 := state_of_ok (k := L) h (ok_it h hb (T - 1)) hL hB
          have fin : decide (GoodPr ps (L : Int) ∧ Crs (fun k => itr (stp m ws) k b) T L) = !decide (itr (stp (m : Int) ws) L (itr (stp (m : Int) ws) (T - 1) b) = itr (stp (m : Int) ws) (T - 1) b) := by
            rw [← decide_not]
            apply decide_eq_decide.mpr
            rw [← itr_add, Nat.add_comm L]
            constructor
            · rintro ⟨_, w⟩
              rcases (cs.mp w).2.2 with y | y
              · exact absurd y t0
              · exact y
            · intro y
              exact ⟨g, cs.mpr ⟨a1, a2, .inr y⟩⟩
          rw [fin]
          unfold F_Course_shows B_Course_shows
          walk_at "fn"
          walk_at "st"
    · have no : decide (GoodPr ps (L : Int) ∧ Crs (fun k => itr (stp m ws) k b) T L) = false := decide_eq_false fun ⟨_, w⟩ => z1 (by
        rw [xL]
        exact (cs.mp w).1)
      rw [no]
      unfold F_Course_shows B_Course_shows
      walk_at "fn"
      walk_at "st"
  · have no : decide (GoodPr ps (L : Int) ∧ Crs (fun k => itr (stp m ws) k b) T L) = false := decide_eq_false fun ⟨w, _⟩ => g w
    rw [no]
    rw [decide_eq_false g] at ap
    unfold F_Course_shows B_Course_shows
    walk_at "fn"
    walk_at "st"
end Den

/-! ME: beginnings put together, so many times (plain). -/
namespace Mt
theorem mul_emod_r (a b m : Int) : a * (b % m) % m = a * b % m := by
  rw [Int.mul_emod, Int.emod_emod_of_dvd _ (Int.dvd_refl m), ← Int.mul_emod]
theorem mul_emod_l (a b m : Int) : a % m * b % m = a * b % m := by
  rw [Int.mul_comm, mul_emod_r, Int.mul_comm]
theorem stp_len {m : Int} {ws u : List Int} (h1 : 1 ≤ u.length) : (stp m ws u).length = u.length := by
  unfold stp
  rw [List.length_append, List.length_drop]
  show u.length - 1 + 1 = u.length
  omega
def addm (m : Int) (u v : List Int) : List Int := (u.zip v).map fun p => (p.1 + p.2) % m
def sclm (m c : Int) (u : List Int) : List Int := u.map fun x => c * x % m
theorem dot_addm (m : Int) : ∀ (ws u v : List Int), u.length = v.length → ∃ k, dot ws (addm m u v) = dot ws u + dot ws v + m * k
  | [], u, v, _ => ⟨0, by rw [dot_nil, dot_nil, dot_nil]; omega⟩
  | w :: ws, [], [], _ => ⟨0, by rw [show addm m [] [] = [] from rfl, dot_nil']; omega⟩
  | w :: ws, a :: u, b :: v, h => by
    obtain ⟨k, hk⟩ := dot_addm m ws u v (by simpa using h)
    refine ⟨k - w * ((a + b) / m), ?_⟩
    rw [show addm m (a :: u) (b :: v) = (a + b) % m :: addm m u v from rfl, dot_cons, dot_cons, dot_cons, hk]
    have := Int.emod_add_mul_ediv (a + b) m
    grind
theorem dot_sclm (m c : Int) : ∀ (ws u : List Int), ∃ k, dot ws (sclm m c u) = c * dot ws u + m * k
  | [], u => ⟨0, by rw [dot_nil, dot_nil]; omega⟩
  | w :: ws, [] => ⟨0, by rw [show sclm m c [] = [] from rfl, dot_nil']; omega⟩
  | w :: ws, a :: u => by
    obtain ⟨k, hk⟩ := dot_sclm m c ws u
    refine ⟨k - w * (c * a / m), ?_⟩
    rw [show sclm m c (a :: u) = c * a % m :: sclm m c u from rfl, dot_cons, dot_cons, hk]
    have := Int.emod_add_mul_ediv (c * a) m
    grind
theorem stp_addm {m : Int} {ws u v : List Int} (h : u.length = v.length) (h1 : 1 ≤ u.length) : stp m ws (addm m u v) = addm m (stp m ws u) (stp m ws v) := by
  obtain ⟨k, hk⟩ := dot_addm m ws u v h
  match u, v, h, h1 with
  | a :: u, b :: v, h, _ =>
    unfold stp
    rw [hk]
    show addm m u v ++ [_] = addm m (u ++ [_]) (v ++ [_])
    unfold addm
    rw [List.zip_append (by simpa using h), List.map_append]
    congr 1
    show [_] = [(_ % m + _ % m) % m]
    rw [Int.add_mul_emod_self_left, ← Int.add_emod]
theorem stp_sclm {m c : Int} {ws u : List Int} (h1 : 1 ≤ u.length) : stp m ws (sclm m c u) = sclm m c (stp m ws u) := by
  obtain ⟨k, hk⟩ := dot_sclm m c ws u
  match u, h1 with
  | a :: u, _ =>
    unfold stp
    rw [hk]
    show sclm m c u ++ [_] = sclm m c (u ++ [_])
    unfold sclm
    rw [List.map_append]
    congr 1
    show [_] = [c * (_ % m) % m]
    rw [Int.add_mul_emod_self_left, mul_emod_r]
theorem itr_len {m : Int} {ws u : List Int} (h1 : 1 ≤ u.length) : ∀ k, (itr (stp m ws) k u).length = u.length := by
  intro k
  induction k with
  | zero => rfl
  | succ k ih =>
    rw [itr_succ, stp_len (by rw [ih]; exact h1), ih]
theorem itr_addm {m : Int} {ws u v : List Int} (h : u.length = v.length) (h1 : 1 ≤ u.length) : ∀ k, itr (stp m ws) k (addm m u v) = addm m (itr (stp m ws) k u) (itr (stp m ws) k v) := by
  intro k
  induction k with
  | zero => rfl
  | succ k ih =>
    rw [itr_succ, itr_succ, itr_succ, ih, stp_addm (by rw [itr_len h1, itr_len (by omega), h]) (by rw [itr_len h1]; exact h1)]
theorem itr_sclm {m c : Int} {ws u : List Int} (h1 : 1 ≤ u.length) : ∀ k, itr (stp m ws) k (sclm m c u) = sclm m c (itr (stp m ws) k u) := by
  intro k
  induction k with
  | zero => rfl
  | succ k ih =>
    rw [itr_succ, itr_succ, ih, stp_sclm (by rw [itr_len h1]; exact h1)]
theorem sclm_back {m d c : Int} (hd : d * c % m = 1 % m) {n : Nat} {u : List Int} (hu : Ok m n u) : sclm m d (sclm m c u) = u := by
  unfold sclm
  rw [List.map_map]
  conv => rhs; rw [← List.map_id u]
  apply List.map_congr_left
  intro x hx
  have r := hu.rng x hx
  show d * (c * x % m) % m = x
  rw [mul_emod_r, ← Int.mul_assoc, ← mul_emod_l, hd, mul_emod_l, Int.one_mul]
  exact Int.emod_eq_of_lt r.1 r.2
theorem ok_addm {m : Int} (hm : 0 < m) {n : Nat} {u v : List Int} (hu : Ok m n u) (hv : Ok m n v) : Ok m n (addm m u v) := by
  refine ⟨?_, fun x hx => ?_⟩
  · unfold addm
    rw [List.length_map, List.length_zip, hu.len, hv.len, Nat.min_self]
  · obtain ⟨p, _, rfl⟩ := List.mem_map.mp hx
    exact ⟨Int.emod_nonneg _ (by omega), Int.emod_lt_of_pos _ hm⟩
theorem ok_sclm {m c : Int} (hm : 0 < m) {n : Nat} {u : List Int} (hu : Ok m n u) : Ok m n (sclm m c u) := by
  refine ⟨?_, fun x hx => ?_⟩
  · unfold sclm
    rw [List.length_map, hu.len]
  · obtain ⟨p, _, rfl⟩ := List.mem_map.mp hx
    exact ⟨Int.emod_nonneg _ (by omega), Int.emod_lt_of_pos _ hm⟩
theorem Crs.rt {α : Type} {x : Nat → α} {T L : Nat} (h : Crs x T L) {t l : Nat} (ht : T ≤ t) (hl : L ∣ l) : x (t + l) = x t := by
  rcases Nat.eq_zero_or_pos l with z | z
  · rw [z]; rfl
  · exact ((h.iff t (t + l) (by omega)).mpr ⟨ht, by rw [Nat.add_sub_cancel_left]; exact hl⟩).symm
theorem Crs.of {α : Type} {x : Nat → α} {T L : Nat} (h : Crs x T L) {t l : Nat} (h1 : 1 ≤ l) (e : x (t + l) = x t) : T ≤ t ∧ L ∣ l := by
  have := (h.iff t (t + l) (by omega)).mp e.symm
  rw [Nat.add_sub_cancel_left] at this
  exact this
/-- a thing made out of another one's states -/
theorem Crs.img {α β : Type} {x : Nat → α} {y : Nat → β} {T L T' L' : Nat} (h : Crs x T L) (h' : Crs y T' L') (f : α → β) (e : ∀ k, y k = f (x k)) : T' ≤ T ∧ L' ∣ L :=
  h'.of h.pos (by rw [e, e, h.rt (Nat.le_refl T) (Nat.dvd_refl L)])
theorem Crs.img2 {α β γ : Type} {x : Nat → α} {y : Nat → β} {z : Nat → γ} {T1 L1 T2 L2 T L : Nat} (h1 : Crs x T1 L1) (h2 : Crs y T2 L2) (h : Crs z T L) (f : α → β → γ) (e : ∀ k, z k = f (x k) (y k)) : T ≤ max T1 T2 ∧ L ∣ L1 / Nat.gcd L1 L2 * L2 :=
  h.of (lcm_pos h1.pos h2.pos) (by rw [e, e, h1.rt (Nat.le_max_left _ _) (lcm_l _ _), h2.rt (Nat.le_max_right _ _) (lcm_r _ _)])
end Mt

/-! PG -/
namespace Den
open PySem L2 Mt
local macro_rules | `(tactic| walk_at "den") => `(tactic| (all_goals (try simp only [fnOf, sSeq, sFz, sAsg, sPar, sUnp, sDrop, sRet, sRetN, sIf, sNext, sNever, sPut, sApp, sMod, modAt, mApp, mPut, fzAt, fzAll, vAll, setAll, gN, gT, gSet, wipeT, vOf, bFz, vC, v1, v2, vBin, vNeg, vCmp, vChain, vAnd, vOr, vNot, bT, bAnd, bOr, bNot, vIf, bIx, dIx, O.isDict, vSl, opI, vNd, vCall, aAll, aPl, aNp, aMv, wSeq, wRange1, wRange2, wRange3, wZip, wEnum, bVar, bYes, dBin, dSub, dMod, dFdiv, dPow, dShl, dShr, i2, dNeg, dCmp, c2, dIs, dInt, dAbs, dMax, dMin, O.child, O.fz, O.toD, O.toDs, O.isVal, O.int?, O.bl?, O.v?, O.allFlat, O.allFlats, ob, om, Option.map_some, Option.bind_some, Option.map_none, Option.bind_none, Option.join_some, Option.join_none, List.length_cons, List.length_nil, List.map_cons, List.map_nil, List.replicate, List.cons_append, List.nil_append, List.getElem?_cons_zero, List.getElem?_cons_succ, List.set_cons_zero, List.set_cons_succ, if_true, if_false, Bool.false_eq_true, reduceIte, Nat.reduceAdd, Nat.reduceSub, Nat.reduceEqDiff, Bool.not_true, Bool.not_false, Bool.and_true, Bool.true_and, Bool.and_false, Bool.false_and, List.all_cons, List.all_nil, true_or, or_true, true_and, and_true, O.ty, dIsB, dAll, dAny, dSum, dLen, dList, dTuple, O.top, O.vals?, dSl, dAdd, dMul, ints?_map, ints?_map', bls?_map, bls?_map', toDs_map', vals_map', toDs_ints, vals_map, toDs_vals, List.length_map, dEq_int, dEq_ints, dEq_bl, cut_map, decide_true, decide_false, decide_eq_true_eq, Bool.not_eq_true', kit_ii, kit_ib, kit_ll, kit_tt, allFlats_ints, vals_mapI, Int.cast_ofNat_Int, Int.reduceAdd, Int.reduceSub, Int.reduceMul, Int.reduceNeg, Int.reduceLT, Int.reduceLE, Int.reduceEq, Int.reduceMod, Int.reduceDiv, Int.reducePow, Int.reduceToNat, Nat.reduceMul, Nat.reducePow, Nat.reduceLeDiff, Nat.reduceLT, decide_not, Int.ofNat_one, Int.ofNat_zero, ne_eq, not_true, not_false_iff, Int.reduceNe])))
local macro_rules | `(tactic| walk_at "sd") => `(tactic| first | with_reducible assumption | omega | decide)
local macro_rules | `(tactic| walk_at "toD") => `(tactic| first | with_reducible exact toD_val _ | with_reducible exact toD_ints _ | with_reducible exact toD_mat _ | with_reducible exact toD_wo _ _ | ((with_reducible apply toD_n); walk_at "toDs") | walk_at "leaf")
local macro_rules | `(tactic| walk_at "toDs") => `(tactic| first | with_reducible exact toDs_0 | with_reducible exact toDs_ints _ | with_reducible exact toDs_vals _ | with_reducible exact toDs_map' _ _ | ((with_reducible apply toDs_1); walk_at "toD"; walk_at "toDs"))
local macro_rules | `(tactic| walk_at "leaf") => `(tactic| with_reducible assumption)
local macro_rules | `(tactic| walk_at "op") => `(tactic| first | walk_at "leaf" | with_reducible exact add_e _ _ | with_reducible exact sub_e _ _ | exact mod_e (by walk_at "sd") | exact div_e (by walk_at "sd") (by walk_at "sd") | exact mul_e (by walk_at "sd") | exact mulL_ints _ _ (by walk_at "sd") (by walk_at "sd") | exact cat_ints (xs := _) (ys := _) (by walk_at "top") (by walk_at "top") (by walk_at "sd") | exact pow_e (by walk_at "sd") (by walk_at "sd") | walk_at "leaf")
local macro_rules | `(tactic| walk_at "top") => `(tactic| first | exact top_ints _ | exact top_vints _ | exact rfl)
local macro_rules | `(tactic| walk_at "cmp") => `(tactic| first | with_reducible assumption | with_reducible exact lt_e _ _ | with_reducible exact le_e _ _ | with_reducible exact gt_e _ _ | with_reducible exact ge_e _ _ | with_reducible exact eq_e _ _ | with_reducible exact ne_e _ _ | with_reducible exact is_bl _ _ | with_reducible exact nis_bl _ _ | ((with_reducible apply co_eq); walk_at "toD"; walk_at "toD"; walk_at "deq") | ((with_reducible apply co_ne); walk_at "toD"; walk_at "toD"; walk_at "deq") | walk_at "leaf")
local macro_rules | `(tactic| walk_at "deq") => `(tactic| first | walk_at "leaf" | exact dEq_ints _ _ | with_reducible exact dEq_wheel _ _ _ _ | exact dEq_bl _ _ | exact dEq_int _ _ | walk_at "leaf")
local macro_rules | `(tactic| walk_at "as") => `(tactic| first | with_reducible exact as_0 | ((with_reducible apply as_1); (first | ((with_reducible apply r_pl); walk_at "ev"; walk_at "toD"; exact rfl) | ((with_reducible apply r_np); walk_at "ev"; walk_at "toD") | ((with_reducible apply r_mv); walk_at "ev")); walk_at "as"))
local macro_rules | `(tactic| walk_at "all") => `(tactic| first | with_reducible exact all_0 | ((with_reducible apply all_1); walk_at "ev"; walk_at "all"))
local macro_rules | `(tactic| walk_at "ev") => `(tactic| first
  | with_reducible assumption
  | ((with_reducible apply r_var); walk_at "at")
  | with_reducible exact r_c
  | ((with_reducible apply r_fz); walk_at "ev"; walk_at "toD")
  | ((with_reducible apply r_of); walk_at "ev")
  | ((with_reducible apply e_bin); walk_at "ev"; walk_at "ev"; walk_at "op")
  | ((with_reducible apply r_cmp); walk_at "ev"; walk_at "ev"; walk_at "cmp")
  | ((with_reducible apply e_ix); walk_at "ev"; walk_at "ev"; walk_at "child")
  | ((with_reducible apply r_call); walk_at "as"; walk_at "leaf"; (first | exact .inl rfl | exact .inr ⟨rfl, rfl⟩ | exact .inr ⟨rfl, allFlat_ints _⟩ | exact .inr ⟨rfl, by walk_at "leaf"⟩))
  | ((with_reducible apply r_meth); walk_at "ev"; walk_at "leaf"; walk_at "leaf"; walk_at "leaf"; exact rfl; walk_at "ev")
  | ((with_reducible apply r_fld); walk_at "ev"; walk_at "leaf")
  | ((with_reducible apply r_T); walk_at "ev")
  | ((with_reducible apply r_bnot); walk_at "ev")
  | ((with_reducible apply r_band0); (with_reducible apply r_T); (with_reducible apply r_var); walk_at "at")
  | ((with_reducible apply r_bor1); (with_reducible apply r_T); (with_reducible apply r_var); walk_at "at")
  | ((with_reducible apply r_bor); walk_at "ev"; (intro hk; walk_at "ev"))
  | ((with_reducible apply r_band); walk_at "ev"; (intro hk; walk_at "ev"))
  | ((with_reducible apply r_or); walk_at "ev"; (intro hk; walk_at "ev"))
  | ((with_reducible apply r_and); walk_at "ev"; (intro hk; walk_at "ev"))
  | ((with_reducible apply r_not); walk_at "ev")
  | ((with_reducible apply r_neg); walk_at "ev")
  | ((with_reducible apply r_chain); walk_at "ev"; walk_at "ev"; walk_at "cmp"; (intro hk; walk_at "ev"); (intro hk; walk_at "cmp"))
  | ((with_reducible apply r_sl); walk_at "ev"; (first | with_reducible exact r_opn | (apply r_ops; walk_at "ev")); (first | with_reducible exact r_opn | (apply r_ops; walk_at "ev")); walk_at "leaf")
  | ((with_reducible apply e_nd); walk_at "all"; exact Nat.le_of_ble_eq_true rfl)
  | ((with_reducible apply e_v1); walk_at "ev"; walk_at "un")
  | ((with_reducible apply e_v2); walk_at "ev"; walk_at "ev"; walk_at "leaf")
  | walk_at "leaf")
local macro_rules | `(tactic| walk_at "un") => `(tactic| first | walk_at "leaf" | exact len_ints _ | exact list_ints _ | exact dRev_ints _ | exact dInt_bl _ | walk_at "leaf")
local macro_rules | `(tactic| walk_at "child") => `(tactic| first | walk_at "leaf" | with_reducible exact wheel_m _ _ | with_reducible exact wheel_w _ _ | exact child_ints (j := 0) (by walk_at "sd"))
local macro_rules | `(tactic| walk_at "set") => `(tactic| first | with_reducible exact l_set0 | ((with_reducible apply l_setS); walk_at "set"))
local macro_rules | `(tactic| walk_at "at") => `(tactic| first | with_reducible exact l_at0 | ((with_reducible apply l_atS); walk_at "at"))
local macro_rules | `(tactic| walk_at "fz") => `(tactic| first | with_reducible exact fz_0 | ((with_reducible apply fz_1); walk_at "at"; walk_at "toD"; walk_at "set"; walk_at "fz") | ((with_reducible apply fz_n); walk_at "at"; walk_at "fz"))
local macro_rules | `(tactic| walk_at "fa") => `(tactic| first | with_reducible exact fa_0 | ((with_reducible apply fa_n); walk_at "fa") | ((with_reducible apply fa_s); walk_at "toD"; walk_at "fa") | ((with_reducible apply fa_x); walk_at "fa"))
local macro_rules | `(tactic| walk_at "gt") => `(tactic| first | with_reducible exact gt_0 | ((with_reducible apply gt_1); walk_at "set"; walk_at "gt"))
local macro_rules | `(tactic| walk_at "sa") => `(tactic| first | with_reducible exact sa_0 | ((with_reducible apply sa_1); walk_at "set"; walk_at "sa"))
local macro_rules | `(tactic| walk_at "kt") => `(tactic| first | with_reducible assumption | exact rfl | (focus ((simp only [Bool.or_eq_true, Bool.and_eq_true, Bool.or_eq_false_iff, Bool.and_eq_false_iff, Bool.not_eq_true', Bool.not_eq_false', decide_eq_true_eq, decide_eq_false_iff_not, Bool.not_true, Bool.not_false, Bool.true_or, Bool.or_true, Bool.false_or, Bool.or_false, Bool.true_and, Bool.and_true, Bool.false_and, Bool.and_false, Bool.false_eq_true, Bool.true_eq_false, not_false_iff, true_and, and_true, or_true, true_or, false_or, or_false]) <;> omega)) | (focus (simp only [*, Bool.not_true, Bool.not_false, Bool.true_or, Bool.or_true, Bool.false_or, Bool.or_false, Bool.true_and, Bool.and_true, Bool.false_and, Bool.and_false, decide_true, decide_false]; done)) | walk_at "leaf")
local macro_rules | `(tactic| walk_at "ini") => `(tactic| ((simp only [List.map_cons, List.map_nil, List.cons_append, List.nil_append, List.replicate, Nat.reduceSub]); try exact rfl))
local macro_rules | `(tactic| walk_at "fn") => `(tactic| ((with_reducible apply fn_go); exact rfl; walk_at "ini"))
local macro_rules | `(tactic| walk_at "fnn") => `(tactic| ((with_reducible apply fn_gn); exact rfl; walk_at "ini"))
local macro_rules | `(tactic| walk_at "st") => `(tactic| first
  | with_reducible exact nx_rfl
  | ((with_reducible apply seq_nx); walk_at "st")
  | ((with_reducible apply seq_assoc); walk_at "st")
  | ((with_reducible apply seq_if); walk_at "ev"; first | (refine .inl ⟨?_, ?_⟩; walk_at "kt"; walk_at "st") | (refine .inr ⟨?_, ?_⟩; walk_at "kt"; walk_at "st"))
  | ((with_reducible apply seq_fz); walk_at "fz"; walk_at "st")
  | ((with_reducible apply seq_rt); first | ((with_reducible apply s_ret); walk_at "fa"; walk_at "ev") | ((with_reducible apply s_retN); walk_at "at"))
  | ((with_reducible apply seq_go); walk_at "s1"; walk_at "st"))
local macro_rules | `(tactic| walk_at "s1") => `(tactic| first
  | ((with_reducible apply s_asg); walk_at "ev"; walk_at "set")
  | ((with_reducible apply s_drop); walk_at "ev")
  | ((with_reducible apply s_par); walk_at "all"; walk_at "sa")
  | ((with_reducible apply s_unp); walk_at "ev"; (with_reducible apply gt_t); walk_at "gt")
  | ((with_reducible apply s_app); walk_at "ev"; walk_at "toD"; walk_at "at"; walk_at "sd"; walk_at "set")
  | walk_at "leaf")
noncomputable def W__law_is_prime_1 : BE := (bT (vCmp .LtE (bFz (vBin .Mult (bVar 1) (bVar 1))) (bVar 0)))
noncomputable def W__law_is_prime_2 : SE := (sSeq (sIf (bT (vCmp .Eq (bFz (vBin .Mod (bVar 0) (bVar 1))) (bFz (vC (.int 0))))) (sSeq (sRet (vC (.bl false))) sNext) sNext) (sSeq (sAsg 1 (vBin .Add (bVar 1) (bFz (vC (.int 1))))) sNext))
noncomputable def B__law_is_prime : SE := (sSeq (sIf (bT (vCmp .Lt (bVar 0) (bFz (vC (.int 2))))) (sSeq (sRet (vC (.bl false))) sNext) sNext) (sSeq (sAsg 1 (vC (.int 2))) (sSeq (sWhile W__law_is_prime_1 W__law_is_prime_2) (sSeq (sRet (vC (.bl true))) sNext))))
noncomputable def F__law_is_prime : Fn := fnOf 1 2 B__law_is_prime
noncomputable def W__law_are_primes_1 : BE := (bT (vCmp .Eq (bFz (vBin .Mod (bVar 1) (bVar 2))) (bFz (vC (.int 0)))))
noncomputable def W__law_are_primes_2 : SE := (sSeq (sAsg 1 (vBin .FloorDiv (bVar 1) (bVar 2))) sNext)
noncomputable def W__law_are_primes_3 : SE := (sSeq (sIf (bOr (bT (vCmp .Gt (bFz (vBin .Mod (bVar 1) (bVar 2))) (bFz (vC (.int 0))))) (bNot (bT (bFz (vCall F__law_is_prime [(aPl (bVar 2))]))))) (sSeq (sRet (vC (.bl false))) sNext) sNext) (sSeq (sWhile W__law_are_primes_1 W__law_are_primes_2) sNext))
noncomputable def B__law_are_primes : SE := (sSeq (sFz [0] (sIf (bOr (bT (vCmp .Lt (bVar 1) (bFz (vC (.int 1))))) (bOr (bT (vCmp .NotEq (bVar 0) (bFz (v1 dSorted (bVar 0))))) (bNot (bT (bFz (v1 dAll (bFz (vLc (wSeq (bVar 0)) [2] (gN 2) bYes (vChain .Lt .Lt (bFz (vC (.int 1))) (bVar 2) (bFz (vC (.int 1000000)))))))))))) (sSeq (sRet (vC (.bl false))) sNext) sNext)) (sSeq (sFz [0] (sFor (wSeq (bVar 0)) (gN 2) W__law_are_primes_3)) (sSeq (sRet (vCmp .Eq (bVar 1) (bFz (vC (.int 1))))) sNext)))
noncomputable def F__law_are_primes : Fn := fnOf 2 3 B__law_are_primes
theorem while_ret {c : BE} {b : SE} {t : Tau} {o : O} (h : c t = some true) (hb : b t = some (.rt o)) : sWhile c b t = some (.rt o) := by
  refine sWhile_of (n := 1) ?_
  unfold whileN
  rw [h, ob, if_pos rfl, hb]
  rfl
theorem prime_try {n f : Nat} (h2 : 2 ≤ n) (hf : n < f * f) (h : ∀ d, 2 ≤ d → d < f → ¬ d ∣ n) : PrimeN n := by
  refine ⟨h2, fun d hd => ?_⟩
  obtain ⟨c, hc⟩ := hd
  have d0 : d ≠ 0 := fun z => by rw [z, Nat.zero_mul] at hc; omega
  have c0 : c ≠ 0 := fun z => by rw [z, Nat.mul_zero] at hc; omega
  by_cases d1 : d = 1
  · exact .inl d1
  by_cases c1 : c = 1
  · right; rw [hc, c1, Nat.mul_one]
  exfalso
  have a : f ≤ d := by
    rcases Nat.lt_or_ge d f with z | z
    · exact absurd ⟨c, hc⟩ (h d (by omega) z)
    · exact z
  have b : f ≤ c := by
    rcases Nat.lt_or_ge c f with z | z
    · exact absurd ⟨d, by rw [hc, Nat.mul_comm]⟩ (h c (by omega) z)
    · exact z
  have := Nat.mul_le_mul a b
  omega
open Classical in
theorem lip_go {n : Nat} (h2 : 2 ≤ n) (h6 : n < 1000000) : ∀ (g f : Nat), f + g = n + 2 → 2 ≤ f → (∀ d, 2 ≤ d → d < f → ¬ d ∣ n) → (¬ PrimeN n ∧ sWhile W__law_is_prime_1 W__law_is_prime_2 [some (.int (n : Int)), some (.int (f : Int))] = some (.rt (.bl false))) ∨ (PrimeN n ∧ ∃ t', sWhile W__law_is_prime_1 W__law_is_prime_2 [some (.int (n : Int)), some (.int (f : Int))] = some (.nx [some (.int (n : Int)), t'])) := by
  intro g
  have cnd : ∀ f : Nat, f ≤ n + 2 → W__law_is_prime_1 [some (.int (n : Int)), some (.int (f : Int))] = some (decide (f * f ≤ n)) := fun f hf => by
    have a1 := mulN (a := f) (b := f) (le8 (by omega)) (le8 (by omega))
    have a2 := le_nat (f * f) n
    unfold W__law_is_prime_1
    walk_at "ev"
  induction g with
  | zero =>
    intro f hf f2 hd
    have hlt : n < f * f := by
      calc n < f := by omega
        _ ≤ f * f := Nat.le_mul_of_pos_left f (by omega)
    exact .inr ⟨prime_try h2 hlt hd, _, while_end (by rw [cnd f (by omega), decide_eq_false (by omega)])⟩
  | succ g ih =>
    intro f hf f2 hd
    by_cases z : f * f ≤ n
    · have m1 := mod_nat (a := n) (b := f) (by omega)
      by_cases y : n % f = 0
      · left
        have hdv := Nat.dvd_of_mod_eq_zero y
        refine ⟨fun hp => ?_, while_ret (by rw [cnd f (by omega), decide_eq_true z]) ?_⟩
        · rcases hp.2 f hdv with w | w
          · omega
          · rw [w] at z
            have := Nat.mul_le_mul_left n h2
            omega
        · have c1 : dCmp .Eq (.int ((n % f : Nat) : Int)) (.int 0) = some true := by rw [y]; exact (eq_natc 0 0)
          unfold W__law_is_prime_2
          walk_at "st"
      · have c1 : dCmp .Eq (.int ((n % f : Nat) : Int)) (.int 0) = some false := by
          have := eq_natc (n % f) 0
          rw [decide_eq_false y] at this
          exact this
        have a1 : dBin .Add (.int (f : Int)) (.int 1) = some (.int ((f + 1 : Nat) : Int)) := add_nat f 1
        have tb : W__law_is_prime_2 [some (.int (n : Int)), some (.int (f : Int))] = some (.nx [some (.int (n : Int)), some (.int ((f + 1 : Nat) : Int))]) := by
          unfold W__law_is_prime_2
          walk_at "st"
        have hd' : ∀ d, 2 ≤ d → d < f + 1 → ¬ d ∣ n := fun d d2 d3 => by
          by_cases w : d = f
          · rw [w]; exact fun q => y (Nat.mod_eq_zero_of_dvd q)
          · exact hd d d2 (by omega)
        rcases ih (f + 1) (by omega) (by omega) hd' with ⟨w1, w2⟩ | ⟨w1, t', w2⟩
        · exact .inl ⟨w1, while_turn (by rw [cnd f (by omega), decide_eq_true z]) tb w2⟩
        · exact .inr ⟨w1, t', while_turn (by rw [cnd f (by omega), decide_eq_true z]) tb w2⟩
    · exact .inr ⟨prime_try h2 (by omega) hd, _, while_end (by rw [cnd f (by omega), decide_eq_false z])⟩
open Classical in
theorem law_is_prime_ok {n : Nat} (h2 : 2 ≤ n) (h6 : n < 1000000) : F__law_is_prime [.int (n : Int)] = some (.bl (decide (PrimeN n))) := by
  have c0 : dCmp .Lt (.int (n : Int)) (.int 2) = some false := by rw [lt_e, decide_eq_false (by omega)]
  unfold F__law_is_prime B__law_is_prime
  rcases lip_go h2 h6 n 2 (by omega) (by omega) (fun d d2 d3 => by omega) with ⟨w1, w2⟩ | ⟨w1, t', w2⟩
  · rw [decide_eq_false w1]
    have w2' : sWhile W__law_is_prime_1 W__law_is_prime_2 [some (.int (n : Int)), some (.int 2)] = _ := w2
    refine fn_go rfl (t := [some (.int (n : Int)), none]) rfl (seq_if (k := false) (by walk_at "ev") (.inr ⟨rfl, seq_nx (seq_go (t' := [some (.int (n : Int)), some (.int 2)]) rfl (seq_rt w2'))⟩))
  · rw [decide_eq_true w1]
    have w2' : sWhile W__law_is_prime_1 W__law_is_prime_2 [some (.int (n : Int)), some (.int 2)] = _ := w2
    walk_at "fn"
    walk_at "st"
theorem lap_out {q : Nat} (hq : 2 ≤ q) (q40 : q ≤ 2 ^ 400) (x : Option O) : ∀ (f n : Nat), n ≤ f → 1 ≤ n → sWhile W__law_are_primes_1 W__law_are_primes_2 [x, some (.int (n : Int)), some (.int (q : Int))] = some (.nx [x, some (.int (outP q f n : Int)), some (.int (q : Int))]) := by
  intro f
  induction f with
  | zero =>
    intro n hn h1
    omega
  | succ f ih =>
    intro n hn n0
    have m1 := mod_nat (a := n) (b := q) (by omega)
    have c1 : dCmp .Eq (.int ((n % q : Nat) : Int)) (.int 0) = some (decide (n % q = 0)) := eq_natc (n % q) 0
    have d1 := div_nat (a := n) (b := q) (by omega) q40
    have cnd : W__law_are_primes_1 [x, some (.int (n : Int)), some (.int (q : Int))] = some (decide (n % q = 0)) := by
      unfold W__law_are_primes_1
      walk_at "ev"
    unfold outP
    by_cases z : n % q = 0
    · rw [if_pos z]
      have hlt : n / q < n := Nat.div_lt_self (by omega) (by omega)
      have hpos : 1 ≤ n / q := Nat.div_pos (Nat.le_of_dvd n0 (Nat.dvd_of_mod_eq_zero z)) (by omega)
      refine while_turn (by rw [cnd, decide_eq_true z]) (t2 := [x, some (.int ((n / q : Nat) : Int)), some (.int (q : Int))]) ?_ (ih (n / q) (by omega) hpos)
      unfold W__law_are_primes_2
      walk_at "st"
    · rw [if_neg z]
      exact while_end (by rw [cnd, decide_eq_false z])
open Classical in
theorem lap_go (ps : O) (d0 : D) (hps : ps.toD = d0) : ∀ (L : List Nat) (n : Nat) (x : Option O), 1 ≤ n → (∀ p ∈ L, 2 ≤ p ∧ p < 1000000) → (procB L n = false ∧ forIn' (gN 2) W__law_are_primes_3 (L.map fun (p : Nat) => D.int (p : Int)) [some ps, some (.int (n : Int)), x] = some (.rt (.bl false))) ∨ ∃ (n' : Nat) (x' : Option O), procB L n = decide (n' = 1) ∧ forIn' (gN 2) W__law_are_primes_3 (L.map fun (p : Nat) => D.int (p : Int)) [some ps, some (.int (n : Int)), x] = some (.nx [some ps, some (.int (n' : Int)), x'])
  | [], n, x, h1, h2 => .inr ⟨n, x, by unfold procB; rfl, rfl⟩
  | p :: L, n, x, h1, h2 => by
    obtain ⟨p2, p6⟩ := h2 p List.mem_cons_self
    have e40 : (1000000 : Nat) ≤ 2 ^ 40 := by decide
    have p400 : p ≤ 2 ^ 400 := small400 (by omega)
    have m1 := mod_nat (a := n) (b := p) (by omega)
    have c1 : dCmp .Gt (.int ((n % p : Nat) : Int)) (.int 0) = some (decide (0 < n % p)) := gt_nat (n % p) 0
    have i1 := law_is_prime_ok p2 p6
    have g1 : gN 2 (D.int (p : Int)) [some ps, some (.int (n : Int)), x] = some [some ps, some (.int (n : Int)), some (.int (p : Int))] := rfl
    have o1 := (out_ok p2 n n (Nat.le_refl n) h1).1
    have w1 := lap_out p2 p400 (some ps) n n (Nat.le_refl n) h1
    unfold procB
    by_cases hc : n % p > 0 ∨ ¬ PrimeN p
    · left
      rw [if_pos hc]
      refine ⟨rfl, for_ret g1 ?_⟩
      have hk : (decide (0 < n % p) || !decide (PrimeN p)) = true := by
        rcases hc with z | z
        · rw [decide_eq_true z]; rfl
        · rw [decide_eq_false z, Bool.not_false, Bool.or_true]
      unfold W__law_are_primes_3
      walk_at "st"
    · rw [if_neg hc]
      have hk : (decide (0 < n % p) || !decide (PrimeN p)) = false := by
        rw [Bool.or_eq_false_iff]
        refine ⟨decide_eq_false fun z => hc (.inl z), ?_⟩
        rw [decide_eq_true (Classical.byContradiction fun z => hc (.inr z)), Bool.not_true]
      have hb : W__law_are_primes_3 [some ps, some (.int (n : Int)), some (.int (p : Int))] = some (.nx [some ps, some (.int (outP p n n : Int)), some (.int (p : Int))]) := by
        unfold W__law_are_primes_3
        walk_at "st"
      rcases lap_go ps d0 hps L (outP p n n) (some (.int (p : Int))) o1 (fun q hq => h2 q (List.mem_cons_of_mem _ hq)) with ⟨z1, z2⟩ | ⟨n', x', z1, z2⟩
      · exact .inl ⟨z1, for_cons g1 hb z2⟩
      · exact .inr ⟨n', x', z1, for_cons g1 hb z2⟩
theorem isort_id : ∀ {ps : List Int}, ps.Pairwise (· ≤ ·) → isort ps = ps
  | [], _ => rfl
  | [x], _ => rfl
  | x :: y :: r, h => by
    obtain ⟨h1, h2⟩ := List.pairwise_cons.mp h
    show insI x (isort (y :: r)) = _
    rw [isort_id h2]
    unfold insI
    rw [if_pos (h1 y List.mem_cons_self)]
theorem sorted_ints (ps : List Int) : dSorted (.val (.ints ps)) = some (.ints (isort ps)) := by
  unfold dSorted
  show (ints? (ps.map D.int)).map _ = _
  rw [ints?_map]
  rfl
open Classical in
theorem law_are_primes_ok {ps : List Int} (n : Int) (hl : ps.length ≤ big) : F__law_are_primes [.val (.ints ps), .int n] = some (.bl (decide (GoodPr ps n))) := by
  have e1 : bFz (vLc (wSeq (bVar 0)) [2] (gN 2) bYes (vChain .Lt .Lt (bFz (vC (.int 1))) (bVar 2) (bFz (vC (.int 1000000))))) [some (.val (.ints ps)), some (.int n), none] = some (.val (.nd .lst (ps.map fun x => D.bl (decide (1 < x) && decide (x < 1000000))))) := by
    refine lcz ps D.int _ rfl hl fun x hx => ⟨[some (.val (.ints ps)), some (.int n), some (.int x)], .bl (decide (1 < x) && decide (x < 1000000)), rfl, ?_, rfl⟩
    walk_at "ev"
  have e2 := all_bl ps fun x => decide (1 < x) && decide (x < 1000000)
  have e3 := sorted_ints ps
  have e4 := dEq_ints ps (isort ps)
  have c1 := lt_e n 1
  unfold F__law_are_primes B__law_are_primes
  generalize hk1 : (ps.all fun x => decide (1 < x) && decide (x < 1000000)) = k1 at e2
  by_cases hg0 : (decide (n < 1) || (!decide (ps = isort ps) || !k1)) = true
  · have hg : decide (GoodPr ps n) = false := decide_eq_false fun hg => by
      have a1 : decide (n < 1) = false := decide_eq_false (by have := hg.1; omega)
      have a2 : decide (ps = isort ps) = true := decide_eq_true (isort_id (hg.2.2.1.imp fun {a b} h => by omega)).symm
      have a3 : k1 = true := by
        rw [← hk1, List.all_eq_true]
        intro x hx
        have := hg.2.1 x hx
        simp only [Bool.and_eq_true, decide_eq_true_eq]
        exact this
      rw [a1, a2, a3] at hg0
      cases hg0
    rw [hg]
    walk_at "fn"
    walk_at "st"
  · rw [Bool.not_eq_true] at hg0
    obtain ⟨a1, a2⟩ := Bool.or_eq_false_iff.mp hg0
    obtain ⟨a2, a3⟩ := Bool.or_eq_false_iff.mp a2
    have n1 : 1 ≤ n := by
      have := of_decide_eq_false a1
      omega
    have up : ps.Pairwise (· ≤ ·) := by
      have : ps = isort ps := by simpa using a2
      rw [this]
      exact isort_up ps
    have a3' : k1 = true := by simpa using a3
    have r1 : ∀ x ∈ ps, 1 < x ∧ x < 1000000 := fun x hx => by
      have := List.all_eq_true.mp (hk1.trans a3') x hx
      simpa only [Bool.and_eq_true, decide_eq_true_eq] using this
    obtain ⟨N, rfl⟩ : ∃ N : Nat, n = (N : Int) := ⟨n.toNat, by omega⟩
    have hz : (ps.map Int.toNat).map (fun (n : Nat) => (n : Int)) = ps := zs_toNat fun x hx => by have := r1 x hx; omega
    have r2 : ∀ p ∈ ps.map Int.toNat, 2 ≤ p ∧ p < 1000000 := fun p hp => by
      obtain ⟨x, hx, rfl⟩ := List.mem_map.mp hp
      have := r1 x hx
      omega
    have gi := good_iff (L := ps.map Int.toNat) (n := N) (by omega) (fun p hp => (r2 p hp).1) fun p hp => Nat.le_of_lt (r2 p hp).2
    rw [hz] at gi
    have up' : (ps.map Int.toNat).Pairwise (· ≤ ·) := by
      rw [List.pairwise_map]
      exact up.imp fun {a b} h => by omega
    have hg : decide (GoodPr ps (N : Int)) = procB (ps.map Int.toNat) N := by
      rw [Bool.eq_iff_iff, decide_eq_true_eq, gi]
      exact ⟨fun h => h.2, fun h => ⟨up', h⟩⟩
    have hd : (ps.map Int.toNat).map (fun (p : Nat) => D.int (p : Int)) = ps.map D.int := by
      conv => rhs; rw [← hz]
      rw [List.map_map, List.map_map, List.map_map]
      rfl
    have w0 : wSeq (bVar 0) [some (.val (.ints ps)), some (.int (N : Int)), none] = some (ps.map D.int) := rfl
    rcases lap_go (.val (.ints ps)) _ rfl (ps.map Int.toNat) N none (by omega) r2 with ⟨z1, z2⟩ | ⟨n', x', z1, z2⟩
    · rw [hg, z1]
      rw [hd] at z2
      have z3 := f_go w0 z2
      refine fn_go rfl (t := [some (.val (.ints ps)), some (.int (N : Int)), none]) rfl ?_
      refine seq_fz (t' := [some (.val (.ints ps)), some (.int (N : Int)), none]) rfl (seq_if (k := (decide ((N : Int) < 1) || (!decide (ps = isort ps) || !k1))) (by walk_at "ev") (.inr ⟨hg0, ?_⟩))
      exact seq_nx (seq_fz (t' := [some (.val (.ints ps)), some (.int (N : Int)), none]) rfl (seq_rt z3))
    · rw [hg, z1]
      rw [hd] at z2
      have z3 := f_go w0 z2
      have c2 : dCmp .Eq (.int (n' : Int)) (.int 1) = some (decide (n' = 1)) := eq_natc n' 1
      walk_at "fn"
      walk_at "st"
theorem f_tail' (T L : Int) (ps : List Int) : O.fieldC ["Course"] "tail" (.crs T L ps) = some (.int T) := by kernel_rfl
theorem f_length' (T L : Int) (ps : List Int) : O.fieldC ["Course"] "length" (.crs T L ps) = some (.int L) := by kernel_rfl
theorem f_primes' (T L : Int) (ps : List Int) : O.fieldC ["Course"] "primes" (.crs T L ps) = some (.ints ps) := by kernel_rfl
theorem allFlat_crs (T L : Int) (ps : List Int) : (O.crs T L ps).allFlat = true := by
  show (true && (true && ((O.ints ps).allFlat && true))) = true
  rw [allFlat_ints]
  rfl
theorem r_bnd {k : Nk} {es : List VE} {t : Tau} {os : List O} (h : vAll es t = some os) (hl : os.length ≤ big) : bNd k es t = some (.nd k os) := by
  unfold bNd
  rw [h, ob, if_pos hl]
theorem dEq_t2 (a b : Int) : dEq (.nd .tup [.int a, .int b]) (.nd .tup [.int a, .int b]) = some true := by
  have hs : (D.nd .tup [.int a, .int b]).simple 60 = true := by simp [D.simple, D.simples]
  rw [dEq_of hs hs]
  simp [D.toPy, D.toPys, PyData.eqv, PyData.eqvAll]
theorem dEq_t3 (a b : Int) (ps : List Int) : dEq (.nd .tup [.int a, .int b, .ints ps]) (.nd .tup [.int a, .int b, .ints ps]) = some true := by
  have hs : (D.nd .tup [.int a, .int b, .ints ps]).simple 60 = true := by simp [D.simple, D.simples, simples_ints]
  rw [dEq_of hs hs]
  simp [D.toPy, D.toPys, PyData.eqv, PyData.eqvAll, toPys_ints, eqvAll_ints]
theorem ints_of {α : Type} (xs : List α) (f : α → Int) : O.nd .lst (xs.map fun x => .val (D.int (f x))) = .ints (xs.map f) := by
  show _ = O.nd .lst ((xs.map f).map O.int)
  rw [List.map_map]
  rfl
theorem inv_mod {m c : Nat} (hm : 1 ≤ m) (h : Nat.gcd m c = 1) : ∃ d : Int, d * (c : Int) % (m : Int) = 1 % (m : Int) := by
  obtain ⟨x, y, e⟩ := bezout m c
  refine ⟨y, ?_⟩
  rw [h] at e
  have : y * (c : Int) = 1 + (m : Int) * (-x) := by
    have := e
    grind
  rw [this, Int.add_mul_emod_self_left]
theorem primeN_of {p : Nat} (h2 : 2 ≤ p) (h : ∀ d, d ≤ p → d ∣ p → d = 1 ∨ d = p) : PrimeN p := ⟨h2, fun d hd => h d (Nat.le_of_dvd (by omega) hd) hd⟩
theorem good_one {ps ps' : List Nat} {L : Nat} (h : GoodPr (zs ps) (L : Int)) (h' : GoodPr (zs ps') (L : Int)) : ps = ps' := by
  have e : ∀ {ps : List Nat}, GoodPr (zs ps) (L : Int) → ∀ p, p ∈ ps ↔ PrimeN p ∧ p ∣ L := fun {ps} h p => by
    rw [← good_nat h p, List.map_map]
    rw [show ps.map (Int.toNat ∘ fun (n : Nat) => (n : Int)) = ps by
      conv => rhs; rw [← List.map_id ps]
      apply List.map_congr_left
      intro x _
      exact Int.toNat_natCast x]
  have up : ∀ {ps : List Nat}, GoodPr (zs ps) (L : Int) → ps.Pairwise (· < ·) := fun {ps} h => by
    have := h.2.2.1
    rw [List.pairwise_map] at this
    exact this.imp fun {a b} z => by omega
  exact up_unique (up h) (up h') fun x => (e h x).trans (e h' x).symm
theorem crs_up {α : Type} {x : Nat → α} {T L : Nat} (h : Crs x T L) (j : Nat) : Crs (fun k => x (T + j + k)) 0 L := by
  refine ⟨h.pos, fun i k hik => ?_⟩
  have := h.iff (T + j + i) (T + j + k) (by omega)
  show x (T + j + i) = x (T + j + k) ↔ _
  rw [this, show T + j + k - (T + j + i) = k - i by omega]
  constructor
  · exact fun z => ⟨by omega, z.2⟩
  · exact fun z => ⟨by omega, z.2⟩
theorem crs_1 {α : Type} {x : Nat → α} {T L : Nat} (h : Crs x T L) (hT : 1 ≤ T) : Crs (fun k => x (1 + k)) (T - 1) L := by
  refine ⟨h.pos, fun i k hik => ?_⟩
  have := h.iff (1 + i) (1 + k) (by omega)
  show x (1 + i) = x (1 + k) ↔ _
  rw [this, show 1 + k - (1 + i) = k - i by omega]
  constructor
  · exact fun z => ⟨by omega, z.2⟩
  · exact fun z => ⟨by omega, z.2⟩
theorem i_crs (T L : Int) (ps : List Int) : dIsO [("Course", true)] (.crs T L ps) = some (.bl true) := by kernel_rfl
theorem i_crs' (T L : Int) (ps : List Int) : dIsO [("Course", true)] (.val (.crs T L ps)) = some (.bl true) := by kernel_rfl
theorem ins_crs (T L : Int) (ps : List Int) : (O.crs T L ps).fz.insOf = some (("Course" : Str), (["tail", "length", "primes"] : List Str)) := rfl
theorem ins_crs' (T L : Int) (ps : List Int) : (O.val (.crs T L ps)).fz.insOf = some (("Course" : Str), (["tail", "length", "primes"] : List Str)) := rfl
theorem no_crs : (["tail", "length", "primes"] : List Str).contains "shows" = false := by decide +kernel
theorem lk_crs : List.lookup ("Course" : Str) [("Course", 3, F_Course_shows)] = some (3, F_Course_shows) := by kernel_rfl
end Den

/-! PH -/
namespace Den
open PySem L2 Mt
local macro_rules | `(tactic| walk_at "den") => `(tactic| (all_goals (try simp only [fnOf, sSeq, sFz, sAsg, sPar, sUnp, sDrop, sRet, sRetN, sIf, sNext, sNever, sPut, sApp, sMod, modAt, mApp, mPut, fzAt, fzAll, vAll, setAll, gN, gT, gSet, wipeT, vOf, bFz, vC, v1, v2, vBin, vNeg, vCmp, vChain, vAnd, vOr, vNot, bT, bAnd, bOr, bNot, vIf, bIx, dIx, O.isDict, vSl, opI, vNd, vCall, aAll, aPl, aNp, aMv, wSeq, wRange1, wRange2, wRange3, wZip, wEnum, bVar, bYes, dBin, dSub, dMod, dFdiv, dPow, dShl, dShr, i2, dNeg, dCmp, c2, dIs, dInt, dAbs, dMax, dMin, O.child, O.fz, O.toD, O.toDs, O.isVal, O.int?, O.bl?, O.v?, O.allFlat, O.allFlats, ob, om, Option.map_some, Option.bind_some, Option.map_none, Option.bind_none, Option.join_some, Option.join_none, List.length_cons, List.length_nil, List.map_cons, List.map_nil, List.replicate, List.cons_append, List.nil_append, List.getElem?_cons_zero, List.getElem?_cons_succ, List.set_cons_zero, List.set_cons_succ, if_true, if_false, Bool.false_eq_true, reduceIte, Nat.reduceAdd, Nat.reduceSub, Nat.reduceEqDiff, Bool.not_true, Bool.not_false, Bool.and_true, Bool.true_and, Bool.and_false, Bool.false_and, List.all_cons, List.all_nil, true_or, or_true, true_and, and_true, O.ty, dIsB, dAll, dAny, dSum, dLen, dList, dTuple, O.top, O.vals?, dSl, dAdd, dMul, ints?_map, ints?_map', bls?_map, bls?_map', toDs_map', vals_map', toDs_ints, vals_map, toDs_vals, List.length_map, dEq_int, dEq_ints, dEq_bl, cut_map, decide_true, decide_false, decide_eq_true_eq, Bool.not_eq_true', kit_ii, kit_ib, kit_ll, kit_tt, allFlats_ints, vals_mapI, Int.cast_ofNat_Int, Int.reduceAdd, Int.reduceSub, Int.reduceMul, Int.reduceNeg, Int.reduceLT, Int.reduceLE, Int.reduceEq, Int.reduceMod, Int.reduceDiv, Int.reducePow, Int.reduceToNat, Nat.reduceMul, Nat.reducePow, Nat.reduceLeDiff, Nat.reduceLT, decide_not, Int.ofNat_one, Int.ofNat_zero, ne_eq, not_true, not_false_iff, Int.reduceNe])))
local macro_rules | `(tactic| walk_at "sd") => `(tactic| first | with_reducible assumption | omega | decide)
local macro_rules | `(tactic| walk_at "toD") => `(tactic| first | with_reducible exact toD_val _ | with_reducible exact toD_ints _ | with_reducible exact toD_mat _ | with_reducible exact toD_wo _ _ | ((with_reducible apply toD_n); walk_at "toDs") | walk_at "leaf")
local macro_rules | `(tactic| walk_at "toDs") => `(tactic| first | with_reducible exact toDs_0 | with_reducible exact toDs_ints _ | with_reducible exact toDs_vals _ | with_reducible exact toDs_map' _ _ | ((with_reducible apply toDs_1); walk_at "toD"; walk_at "toDs"))
local macro_rules | `(tactic| walk_at "leaf") => `(tactic| with_reducible assumption)
local macro_rules | `(tactic| walk_at "op") => `(tactic| first | walk_at "leaf" | with_reducible exact add_e _ _ | with_reducible exact sub_e _ _ | exact mod_e (by walk_at "sd") | exact div_e (by walk_at "sd") (by walk_at "sd") | exact mul_e (by walk_at "sd") | exact mulL_ints _ _ (by walk_at "sd") (by walk_at "sd") | exact cat_ints (xs := _) (ys := _) (by walk_at "top") (by walk_at "top") (by walk_at "sd") | exact pow_e (by walk_at "sd") (by walk_at "sd") | walk_at "leaf")
local macro_rules | `(tactic| walk_at "top") => `(tactic| first | exact top_ints _ | exact top_vints _ | exact rfl)
local macro_rules | `(tactic| walk_at "cmp") => `(tactic| first | with_reducible assumption | with_reducible exact lt_e _ _ | with_reducible exact le_e _ _ | with_reducible exact gt_e _ _ | with_reducible exact ge_e _ _ | with_reducible exact eq_e _ _ | with_reducible exact ne_e _ _ | with_reducible exact is_bl _ _ | with_reducible exact nis_bl _ _ | ((with_reducible apply co_eq); walk_at "toD"; walk_at "toD"; walk_at "deq") | ((with_reducible apply co_ne); walk_at "toD"; walk_at "toD"; walk_at "deq") | walk_at "leaf")
local macro_rules | `(tactic| walk_at "deq") => `(tactic| first | walk_at "leaf" | exact dEq_ints _ _ | with_reducible exact dEq_wheel _ _ _ _ | exact dEq_bl _ _ | exact dEq_int _ _ | walk_at "leaf")
local macro_rules | `(tactic| walk_at "as") => `(tactic| first | with_reducible exact as_0 | ((with_reducible apply as_1); (first | ((with_reducible apply r_pl); walk_at "ev"; walk_at "toD"; exact rfl) | ((with_reducible apply r_np); walk_at "ev"; walk_at "toD") | ((with_reducible apply r_mv); walk_at "ev")); walk_at "as"))
local macro_rules | `(tactic| walk_at "all") => `(tactic| first | with_reducible exact all_0 | ((with_reducible apply all_1); walk_at "ev"; walk_at "all"))
local macro_rules | `(tactic| walk_at "ev") => `(tactic| first
  | with_reducible assumption
  | ((with_reducible apply r_var); walk_at "at")
  | with_reducible exact r_c
  | ((with_reducible apply r_fz); walk_at "ev"; walk_at "toD")
  | ((with_reducible apply r_of); walk_at "ev")
  | ((with_reducible apply e_bin); walk_at "ev"; walk_at "ev"; walk_at "op")
  | ((with_reducible apply r_cmp); walk_at "ev"; walk_at "ev"; walk_at "cmp")
  | ((with_reducible apply e_ix); walk_at "ev"; walk_at "ev"; walk_at "child")
  | ((with_reducible apply r_call); walk_at "as"; walk_at "leaf"; (first | exact .inl rfl | exact .inr ⟨rfl, rfl⟩ | exact .inr ⟨rfl, allFlat_ints _⟩ | exact .inr ⟨rfl, by walk_at "leaf"⟩))
  | ((with_reducible apply r_meth); walk_at "ev"; walk_at "leaf"; walk_at "leaf"; walk_at "leaf"; exact rfl; walk_at "ev")
  | ((with_reducible apply r_fld); walk_at "ev"; walk_at "leaf")
  | ((with_reducible apply r_T); walk_at "ev")
  | ((with_reducible apply r_bnot); walk_at "ev")
  | ((with_reducible apply r_band0); (with_reducible apply r_T); (with_reducible apply r_var); walk_at "at")
  | ((with_reducible apply r_bor1); (with_reducible apply r_T); (with_reducible apply r_var); walk_at "at")
  | ((with_reducible apply r_bor); walk_at "ev"; (intro hk; walk_at "ev"))
  | ((with_reducible apply r_band); walk_at "ev"; (intro hk; walk_at "ev"))
  | ((with_reducible apply r_or); walk_at "ev"; (intro hk; walk_at "ev"))
  | ((with_reducible apply r_and); walk_at "ev"; (intro hk; walk_at "ev"))
  | ((with_reducible apply r_not); walk_at "ev")
  | ((with_reducible apply r_neg); walk_at "ev")
  | ((with_reducible apply r_chain); walk_at "ev"; walk_at "ev"; walk_at "cmp"; (intro hk; walk_at "ev"); (intro hk; walk_at "cmp"))
  | ((with_reducible apply r_sl); walk_at "ev"; (first | with_reducible exact r_opn | (apply r_ops; walk_at "ev")); (first | with_reducible exact r_opn | (apply r_ops; walk_at "ev")); walk_at "leaf")
  | ((with_reducible apply e_nd); walk_at "all"; exact Nat.le_of_ble_eq_true rfl)
  | ((with_reducible apply e_v1); walk_at "ev"; walk_at "un")
  | ((with_reducible apply e_v2); walk_at "ev"; walk_at "ev"; walk_at "leaf")
  | walk_at "leaf")
local macro_rules | `(tactic| walk_at "un") => `(tactic| first | walk_at "leaf" | exact len_ints _ | exact list_ints _ | exact dRev_ints _ | exact dInt_bl _ | walk_at "leaf")
local macro_rules | `(tactic| walk_at "child") => `(tactic| first | walk_at "leaf" | with_reducible exact wheel_m _ _ | with_reducible exact wheel_w _ _ | exact child_ints (j := 0) (by walk_at "sd"))
local macro_rules | `(tactic| walk_at "set") => `(tactic| first | with_reducible exact l_set0 | ((with_reducible apply l_setS); walk_at "set"))
local macro_rules | `(tactic| walk_at "at") => `(tactic| first | with_reducible exact l_at0 | ((with_reducible apply l_atS); walk_at "at"))
local macro_rules | `(tactic| walk_at "fz") => `(tactic| first | with_reducible exact fz_0 | ((with_reducible apply fz_1); walk_at "at"; walk_at "toD"; walk_at "set"; walk_at "fz") | ((with_reducible apply fz_n); walk_at "at"; walk_at "fz"))
local macro_rules | `(tactic| walk_at "fa") => `(tactic| first | with_reducible exact fa_0 | ((with_reducible apply fa_n); walk_at "fa") | ((with_reducible apply fa_s); walk_at "toD"; walk_at "fa") | ((with_reducible apply fa_x); walk_at "fa"))
local macro_rules | `(tactic| walk_at "gt") => `(tactic| first | with_reducible exact gt_0 | ((with_reducible apply gt_1); walk_at "set"; walk_at "gt"))
local macro_rules | `(tactic| walk_at "sa") => `(tactic| first | with_reducible exact sa_0 | ((with_reducible apply sa_1); walk_at "set"; walk_at "sa"))
local macro_rules | `(tactic| walk_at "kt") => `(tactic| first | with_reducible assumption | exact rfl | (focus ((simp only [Bool.or_eq_true, Bool.and_eq_true, Bool.or_eq_false_iff, Bool.and_eq_false_iff, Bool.not_eq_true', Bool.not_eq_false', decide_eq_true_eq, decide_eq_false_iff_not, Bool.not_true, Bool.not_false, Bool.true_or, Bool.or_true, Bool.false_or, Bool.or_false, Bool.true_and, Bool.and_true, Bool.false_and, Bool.and_false, Bool.false_eq_true, Bool.true_eq_false, not_false_iff, true_and, and_true, or_true, true_or, false_or, or_false]) <;> omega)) | (focus (simp only [*, Bool.not_true, Bool.not_false, Bool.true_or, Bool.or_true, Bool.false_or, Bool.or_false, Bool.true_and, Bool.and_true, Bool.false_and, Bool.and_false, decide_true, decide_false]; done)) | walk_at "leaf")
local macro_rules | `(tactic| walk_at "ini") => `(tactic| ((simp only [List.map_cons, List.map_nil, List.cons_append, List.nil_append, List.replicate, Nat.reduceSub]); try exact rfl))
local macro_rules | `(tactic| walk_at "fn") => `(tactic| ((with_reducible apply fn_go); exact rfl; walk_at "ini"))
local macro_rules | `(tactic| walk_at "fnn") => `(tactic| ((with_reducible apply fn_gn); exact rfl; walk_at "ini"))
local macro_rules | `(tactic| walk_at "st") => `(tactic| first
  | with_reducible exact nx_rfl
  | ((with_reducible apply seq_nx); walk_at "st")
  | ((with_reducible apply seq_assoc); walk_at "st")
  | ((with_reducible apply seq_if); walk_at "ev"; first | (refine .inl ⟨?_, ?_⟩; walk_at "kt"; walk_at "st") | (refine .inr ⟨?_, ?_⟩; walk_at "kt"; walk_at "st"))
  | ((with_reducible apply seq_fz); walk_at "fz"; walk_at "st")
  | ((with_reducible apply seq_rt); first | ((with_reducible apply s_ret); walk_at "fa"; walk_at "ev") | ((with_reducible apply s_retN); walk_at "at"))
  | ((with_reducible apply seq_go); walk_at "s1"; walk_at "st"))
local macro_rules | `(tactic| walk_at "s1") => `(tactic| first
  | ((with_reducible apply s_asg); walk_at "ev"; walk_at "set")
  | ((with_reducible apply s_drop); walk_at "ev")
  | ((with_reducible apply s_par); walk_at "all"; walk_at "sa")
  | ((with_reducible apply s_unp); walk_at "ev"; (with_reducible apply gt_t); walk_at "gt")
  | ((with_reducible apply s_app); walk_at "ev"; walk_at "toD"; walk_at "at"; walk_at "sd"; walk_at "set")
  | walk_at "leaf")
noncomputable def W__law_course_1 : BE := (bT (vCmp .NotIn (bFz (v1 dTuple (bVar 3))) (bVar 2)))
noncomputable def W__law_course_2 : SE := (sSeq (sFz [4] (sPut 2 [] (bFz (v1 dTuple (bVar 3))) (vOf (bVar 4)))) (sSeq (sPar [3, 4] [(vCall F__law_step [(aPl (bVar 0)), (aPl (bVar 3))]), (vBin .Add (bVar 4) (bFz (vC (.int 1))))]) sNext))
noncomputable def B__law_course : SE := (sSeq (sPar [2, 3, 4] [vDt, (v1 dList (bVar 1)), (vC (.int 0))]) (sSeq (sWhile W__law_course_1 W__law_course_2) (sSeq (sRet (vNd .tup [(vOf (bIx (bVar 2) (bFz (v1 dTuple (bVar 3))))), (vBin .Sub (bVar 4) (bIx (bVar 2) (bFz (v1 dTuple (bVar 3)))))])) sNext)))
noncomputable def F__law_course : Fn := fnOf 2 5 B__law_course
noncomputable def B__law_small : SE := (sSeq (sAsg 2 (vCall F__law_cell_at [(aPl (bVar 0)), (aPl (bVar 1))])) (sSeq (sAsg 3 (vBin .Add (bFz (vC (.int 1))) (bFz (vBin .Mod (bFz (vCall F__law_value [(aPl (bVar 2)), (aNp (vC (.int 1)))])) (bFz (vC (.int 4))))))) (sSeq (sAsg 4 (vBin .Add (bFz (vC (.int 1))) (bFz (vBin .Mod (bFz (vCall F__law_value [(aPl (bVar 2)), (aNp (vC (.int 2)))])) (bIx (bFz (vNd .tup [(vC (.int 300)), (vC (.int 17)), (vC (.int 6)), (vC (.int 4))])) (bFz (vBin .Sub (bVar 3) (bFz (vC (.int 1)))))))))) (sSeq (sFz [3] (sAsg 5 (vLc (wRange1 (bVar 3)) [6] (gN 6) bYes (vBin .Mod (bFz (vCall F__law_value [(aNp (vCall F__law_cell_at [(aPl (bVar 0)), (aNp (vBin .Add (bVar 1) (bFz (vBin .Mod (bVar 6) (bFz (vC (.int 2)))))))])), (aNp (vBin .Add (bVar 6) (bFz (vC (.int 3)))))])) (bVar 4))))) (sSeq (sFz [3] (sAsg 7 (vLc (wRange1 (bVar 3)) [6] (gN 6) bYes (vBin .Mod (bFz (vCall F__law_value [(aNp (vCall F__law_cell_at [(aPl (bVar 0)), (aNp (vBin .Add (bVar 1) (bFz (vBin .Mod (bVar 6) (bFz (vC (.int 3)))))))])), (aNp (vBin .Add (bVar 6) (bFz (vC (.int 10)))))])) (bVar 4))))) (sSeq (sRet (vNd .tup [(vNd .tup [(vOf (bVar 4)), (vOf (bVar 5))]), (vOf (bVar 7))])) sNext))))))
noncomputable def F__law_small : Fn := fnOf 2 8 B__law_small
/-! ### walking with a dict -/
abbrev keyL (xs : List Int) : List L2.Key := xs.map Sum.inl
theorem keyL_inj {xs ys : List Int} : keyL xs = keyL ys ↔ xs = ys := by
  constructor
  · intro h
    have := congrArg (List.map fun k => match k with | Sum.inl i => i | Sum.inr _ => (0 : Int)) h
    rw [List.map_map, List.map_map] at this
    have e : ∀ l : List Int, l.map ((fun (k : L2.Key) => match k with | Sum.inl i => i | Sum.inr _ => (0 : Int)) ∘ Sum.inl) = l := fun l => by
      conv => rhs; rw [← List.map_id l]
      apply List.map_congr_left
      intro x _
      rfl
    rw [e, e] at this
    exact this
  · rintro rfl
    rfl
def kvD (x : Nat → List Int) (i : Nat) : List (List L2.Key × V) := (List.range i).map fun (k : Nat) => (keyL (x k), .int (k : Int))
abbrev O.dtX (x : Nat → List Int) (i : Nat) : O := .nd (.dt (kvD x i)) []
theorem kvD_succ (x : Nat → List Int) (i : Nat) : kvD x (i + 1) = kvD x i ++ [(keyL (x i), .int (i : Int))] := by
  unfold kvD
  rw [List.range_succ, List.map_append]
  rfl
theorem valV_app {κ : Type} [DecidableEq κ] (a c : List (κ × V)) (k : κ) : valV (a ++ c) k = (valV a k).or (valV c k) := by
  unfold valV
  rw [List.find?_append]
  cases a.find? fun kv => decide (kv.1 = k) <;> rfl
theorem val_none {x : Nat → List Int} {y : List Int} : ∀ {i : Nat}, (∀ k, k < i → x k ≠ y) → valV (kvD x i) (keyL y) = none
  | 0, _ => rfl
  | i + 1, h => by
    rw [kvD_succ, valV_app, val_none fun k hk => h k (by omega)]
    exact valV_neg (r := []) fun e => h i (by omega) (keyL_inj.mp e)
theorem val_at {x : Nat → List Int} {y : List Int} {t : Nat} (ht : x t = y) (hk : ∀ k, k < t → x k ≠ y) : ∀ {i : Nat}, t < i → valV (kvD x i) (keyL y) = some (.int (t : Int))
  | i + 1, h => by
    rw [kvD_succ, valV_app]
    by_cases z : t = i
    · rw [val_none (i := i) fun k hk' => hk k (by omega), ← z, ht]
      exact valV_pos (r := []) rfl
    · rw [val_at ht hk (by omega)]
      rfl
theorem keys_ints : ∀ xs : List Int, keys? (xs.map D.int) = some (keyL xs)
  | [] => rfl
  | x :: r => by
    show (keys? (r.map D.int)).map _ = _
    rw [keys_ints r]
    rfl
theorem dget_dt (x : Nat → List Int) (i : Nat) (y : List Int) : (O.dtX x i).dget (.val (.nd .tup (y.map D.int))) = some (valV (kvD x i) (keyL y)) := by
  unfold O.dget
  rw [toD_nd]
  show (keys? (y.map D.int)).map _ = _
  rw [keys_ints]
  rfl
theorem dget_dv (x : Nat → List Int) (i : Nat) (y : List Int) : (O.val (.nd (.dt (kvD x i)) [])).dget (.val (.nd .tup (y.map D.int))) = some (valV (kvD x i) (keyL y)) := dget_dt x i y
theorem notin_dt (x : Nat → List Int) (i : Nat) (y : List Int) : dCmp .NotIn (.val (.nd .tup (y.map D.int))) (.dtX x i) = some (!(valV (kvD x i) (keyL y)).isSome) := by
  show (dIn _ _).map (!·) = _
  unfold dIn
  rw [if_pos (show (O.dtX x i).isDict = true from rfl), dget_dt]
  rfl
theorem tuple_ints {o : O} {xs : List Int} (h : o.top = some (.lst, xs.map D.int)) {a : VE} {t : Tau} (ha : a t = some o) : bFz (v1 dTuple a) t = some (.val (.nd .tup (xs.map D.int))) := by
  refine r_fz (o := .nd .tup (xs.map fun x => .val (D.int x))) (e_v1 ha ?_) (by rw [toD_nd, toDs_map'])
  unfold dTuple
  rw [h]
  show some (O.nd .tup ((xs.map D.int).map O.val)) = _
  rw [List.map_map]
  rfl
theorem put_dt {t t' : Tau} {x : Nat → List Int} {i p : Nat} {a b : VE} (h : t[p]? = some (some (.dtX x i))) (ha : a t = some (.val (.nd .tup ((x i).map D.int)))) (hb : b t = some (.int (i : Int))) (hl : i < big) (hn : ∀ k, k < i → x k ≠ x i) (ht : t.set p (some (.dtX x (i + 1))) = t') : sPut p [] a b t = some (.nx t') := by
  have hk : (kvD x i).length < big := by
    unfold kvD
    rw [List.length_map, List.length_range]
    exact hl
  have hp : putK (kvD x i) (keyL (x i)) (.int (i : Int)) = kvD x (i + 1) := by
    unfold putK
    rw [valV_any, val_none hn, if_neg (by decide), kvD_succ]
  unfold sPut
  rw [hb, ob, ha, ob]
  unfold sMod
  rw [r_var h, ob]
  show (((((keys? ((x i).map D.int)).bind fun k => if (kvD x i).length < big then some (Nk.dt (putK (kvD x i) k (.int (i : Int))), ([] : List O)) else none)).map fun r => O.nd r.1 r.2).map _) = _
  rw [keys_ints, ob, if_pos hk, hp, ← ht]
  rfl
section
variable {m : Nat} {ws b : List Int} {T L : Nat}
theorem crs_ne {α : Type} {x : Nat → α} (c : Crs x T L) {i k : Nat} (hk : k < i) (hi : i < T + L) : x k ≠ x i := fun e => by
  have := (c.iff k i hk).mp e
  have := Nat.le_of_dvd (by omega) this.2
  omega
theorem crs_room (h : Wh (m : Int) ws) (hb : Ok (m : Int) ws.length b) (c : Crs (fun k => itr (stp m ws) k b) T L) : T + L ≤ m ^ ws.length := by
  have := len_le (a := (List.range (T + L)).map fun i => itr (stp (m : Int) ws) i b) (b := allS m ws.length) (nodup_itr fun i j hij hj => crs_ne c hij hj) fun x hx => by
    obtain ⟨i, _, rfl⟩ := List.mem_map.mp hx
    exact allS_mem.mpr (ok_it h hb i)
  rw [List.length_map, List.length_range, allS_len] at this
  exact this
theorem lc_go' (h : Wh (m : Int) ws) (hb : Ok (m : Int) ws.length b) (c : Crs (fun k => itr (stp m ws) k b) T L) (hl : T + L < big) (a1 : Option O) : ∀ (f i : Nat), i + f = T + L → sWhile W__law_course_1 W__law_course_2 [some (.val (.wheel (m : Int) ws)), a1, some (.dtX (fun k => itr (stp m ws) k b) i), some (.ints (itr (stp m ws) i b)), some (.int (i : Int))] = some (.nx [some (.val (.wheel (m : Int) ws)), a1, some (.dtX (fun k => itr (stp m ws) k b) (T + L)), some (.ints (itr (stp m ws) (T + L) b)), some (.int ((T + L : Nat) : Int))]) := by
  intro f
  have cnd : ∀ i, W__law_course_1 [some (.val (.wheel (m : Int) ws)), a1, some (.dtX (fun k => itr (stp m ws) k b) i), some (.ints (itr (stp m ws) i b)), some (.int (i : Int))] = some (!(valV (kvD (fun k => itr (stp m ws) k b) i) (keyL (itr (stp m ws) i b))).isSome) := fun i => by
    have e1 := tuple_ints (a := bVar 3) (t := [some (.val (.wheel (m : Int) ws)), a1, some (.dtX (fun k => itr (stp m ws) k b) i), some (.ints (itr (stp m ws) i b)), some (.int (i : Int))]) (top_ints (itr (stp m ws) i b)) rfl
    have e2 := notin_dt (fun k => itr (stp m ws) k b) i (itr (stp m ws) i b)
    unfold W__law_course_1
    walk_at "ev"
  induction f with
  | zero =>
    intro i hi
    obtain rfl : i = T + L := by omega
    have e := c.rt (Nat.le_refl T) (Nat.dvd_refl L)
    have v := val_at (x := fun k => itr (stp (m : Int) ws) k b) (y := itr (stp (m : Int) ws) (T + L) b) (t := T) e.symm (fun k hk e' => crs_ne c hk (by have := c.pos; omega) (by rw [e] at e'; exact e')) (i := T + L) (by have := c.pos; omega)
    exact while_end (by rw [cnd, v]; rfl)
  | succ f ih =>
    intro i hi
    have v := val_none (x := fun k => itr (stp (m : Int) ws) k b) (y := itr (stp (m : Int) ws) i b) (i := i) (fun k hk => crs_ne c hk (by omega))
    have s1 := law_step_ok h (ok_it h hb i)
    rw [← itr_succ (stp (m : Int) ws) i b] at s1
    have a2 : dBin .Add (.int (i : Int)) (.int 1) = some (.int ((i + 1 : Nat) : Int)) := add_nat i 1
    refine while_turn (by rw [cnd, v]; rfl) (t2 := [some (.val (.wheel (m : Int) ws)), a1, some (.dtX (fun k => itr (stp m ws) k b) (i + 1)), some (.ints (itr (stp m ws) (i + 1) b)), some (.int ((i + 1 : Nat) : Int))]) ?_ (ih (i + 1) (by omega))
    have e1 := tuple_ints (a := bVar 3) (t := [some (.val (.wheel (m : Int) ws)), a1, some (.dtX (fun k => itr (stp m ws) k b) i), some (.ints (itr (stp m ws) i b)), some (.int (i : Int))]) (top_ints (itr (stp m ws) i b)) rfl
    have p1 : sPut 2 [] (bFz (v1 dTuple (bVar 3))) (vOf (bVar 4)) [some (.val (.wheel (m : Int) ws)), a1, some (.dtX (fun k => itr (stp m ws) k b) i), some (.ints (itr (stp m ws) i b)), some (.int (i : Int))] = some (.nx [some (.val (.wheel (m : Int) ws)), a1, some (.dtX (fun k => itr (stp m ws) k b) (i + 1)), some (.ints (itr (stp m ws) i b)), some (.int (i : Int))]) :=
      put_dt (x := fun k => itr (stp (m : Int) ws) k b) (i := i) rfl e1 (by walk_at "ev") (by omega) (fun k hk => crs_ne c hk (by omega)) rfl
    unfold W__law_course_2
    walk_at "st"
theorem law_course_ok (h : Wh (m : Int) ws) (hb : Ok (m : Int) ws.length b) (c : Crs (fun k => itr (stp m ws) k b) T L) (hl : T + L < big) : F__law_course [.val (.wheel (m : Int) ws), .val (.ints b)] = some (.nd .tup [.int (T : Int), .int (L : Int)]) := by
  have w := lc_go' h hb c hl (some (.val (.ints b))) (T + L) 0 (by omega)
  have w' : sWhile W__law_course_1 W__law_course_2 [some (.val (.wheel (m : Int) ws)), some (.val (.ints b)), some (.nd (.dt []) []), some (.ints b), some (.int 0)] = _ := w
  have e := c.rt (Nat.le_refl T) (Nat.dvd_refl L)
  have v := val_at (x := fun k => itr (stp (m : Int) ws) k b) (y := itr (stp (m : Int) ws) (T + L) b) (t := T) e.symm (fun k hk e' => crs_ne c hk (by have := c.pos; omega) (by rw [e] at e'; exact e')) (i := T + L) (by have := c.pos; omega)
  have e0 : vDt [some (.val (.wheel (m : Int) ws)), some (.val (.ints b)), none, none, none] = some (.nd (.dt []) []) := rfl
  have tp := tuple_ints (a := bVar 3) (t := [some (.val (.wheel (m : Int) ws)), some (.val (.ints b)), some (.val (.nd (.dt (kvD (fun k => itr (stp m ws) k b) (T + L))) [])), some (.val (.ints (itr (stp m ws) (T + L) b))), some (.int ((T + L : Nat) : Int))]) (top_vints (itr (stp m ws) (T + L) b)) rfl
  have gx : bIx (bVar 2) (bFz (v1 dTuple (bVar 3))) [some (.val (.wheel (m : Int) ws)), some (.val (.ints b)), some (.val (.nd (.dt (kvD (fun k => itr (stp m ws) k b) (T + L))) [])), some (.val (.ints (itr (stp m ws) (T + L) b))), some (.int ((T + L : Nat) : Int))] = some (.int (T : Int)) := by
    refine e_v2 (x := .val (.nd (.dt (kvD (fun k => itr (stp m ws) k b) (T + L))) [])) rfl tp ?_
    unfold dIx
    rw [if_pos (show (O.val (.nd (.dt (kvD (fun k => itr (stp (m : Int) ws) k b) (T + L))) [])).isDict = true from rfl), dget_dv, v]
    rfl
  have s1 : dBin .Sub (.int ((T + L : Nat) : Int)) (.int (T : Int)) = some (.int (L : Int)) := by
    rw [subN (by omega), Nat.add_sub_cancel_left]
  unfold F__law_course B__law_course
  walk_at "fn"
  walk_at "st"
end
theorem small_row {ns : List Int} {by' q r m n : Nat} (hm : 0 < m) (hn : n ≤ 4) (hq : 0 < q) (hr : r ≤ 100) (qi ri : Int) (eq : qi = (q : Int)) (er : ri = (r : Int)) {a2 a5 a7 : Option O} :
    vLc (wRange1 (bVar 3)) [6] (gN 6) bYes (vBin .Mod (bFz (vCall F__law_value [(aNp (vCall F__law_cell_at [(aPl (bVar 0)), (aNp (vBin .Add (bVar 1) (bFz (vBin .Mod (bVar 6) (bFz (vC (.int qi)))))))])), (aNp (vBin .Add (bVar 6) (bFz (vC (.int ri)))))])) (bVar 4)) [some (.val (.ints ns)), some (.int (by' : Int)), a2, some (.int (n : Int)), some (.int (m : Int)), a5, none, a7] = some (.ints ((List.range n).map fun (i : Nat) => ((lv (ns.getD (by' + i % q) 0) (i + r) % m : Nat) : Int))) := by
  subst eq er
  have e2 := wr1' (a := bVar 3) (t := [some (.val (.ints ns)), some (.int (by' : Int)), a2, some (.int (n : Int)), some (.int (m : Int)), a5, none, a7]) (n := n) rfl (Nat.le_trans hn (by decide))
  rw [← List.range_eq_range'] at e2
  rw [vLc_map (xs := List.range n) (ψ := fun (i : Nat) => D.int ((lv (ns.getD (by' + i % q) 0) (i + r) % m : Nat) : Int)) e2 (by rw [List.length_range]; exact Nat.le_trans hn (by decide)) fun i hi => ?_]
  · exact congrArg some (ints_of (List.range n) fun (i : Nat) => ((lv (ns.getD (by' + i % q) 0) (i + r) % m : Nat) : Int))
  · have hi' := List.mem_range.mp hi
    refine el (o := .int ((lv (ns.getD (by' + i % q) 0) (i + r) % m : Nat) : Int)) (t1 := [some (.val (.ints ns)), some (.int (by' : Int)), a2, some (.int (n : Int)), some (.int (m : Int)), a5, some (.int (i : Int)), a7]) rfl ?_
    have a0 := mod_nat (a := i) (b := q) hq
    have a1 := add_nat by' (i % q)
    have a2 := add_nat i r
    have a3 := cell_at_ok ns (by' + i % q)
    have a4 := value_ok (ns.getD (by' + i % q) 0) (k := i + r) (by omega)
    have a5 := mod_nat (a := lv (ns.getD (by' + i % q) 0) (i + r)) (b := m) hm
    walk_at "ev"
theorem law_small_ok (ns : List Int) (by' : Nat) : ∃ (m : Nat) (ws b : List Int), Wh (m : Int) ws ∧ Ok (m : Int) ws.length b ∧ m ^ ws.length ≤ 300 ∧ F__law_small [.val (.ints ns), .int (by' : Int)] = some (.nd .tup [.nd .tup [.int (m : Int), .val (.ints ws)], .val (.ints b)]) := by
  have c0 := cell_at_ok ns by'
  generalize ns.getD by' 0 = c at c0
  have v1 : F__law_value [.int c, .int 1] = some (.int (lv c 1 : Int)) := value_ok c (k := 1) (by decide)
  have v2 : F__law_value [.int c, .int 2] = some (.int (lv c 2 : Int)) := value_ok c (k := 2) (by decide)
  have m1 : dBin .Mod (.int (lv c 1 : Int)) (.int 4) = some (.int ((lv c 1 % 4 : Nat) : Int)) := mod_nat (b := 4) (by decide)
  have a1 : dBin .Add (.int 1) (.int ((lv c 1 % 4 : Nat) : Int)) = some (.int ((1 + lv c 1 % 4 : Nat) : Int)) := add_nat 1 _
  have s1 : dBin .Sub (.int ((1 + lv c 1 % 4 : Nat) : Int)) (.int 1) = some (.int ((lv c 1 % 4 : Nat) : Int)) := by
    have := subN (a := 1 + lv c 1 % 4) (b := 1) (by omega)
    rw [Nat.add_sub_cancel_left] at this
    exact this
  have hlt : lv c 1 % 4 < 4 := Nat.mod_lt _ (by decide)
  generalize lv c 1 % 4 = k at m1 a1 s1 hlt
  generalize lv c 2 = V at v2
  have ch : ∃ q : Nat, 1 ≤ q ∧ q ^ (1 + k) ≤ 300 ∧ q ≤ 300 ∧ (O.val (.nd .tup [.int 300, .int 17, .int 6, .int 4])).child (k : Int) = some (.int (q : Int)) := by
    have : k = 0 ∨ k = 1 ∨ k = 2 ∨ k = 3 := by omega
    rcases this with rfl | rfl | rfl | rfl
    · exact ⟨300, by decide, by decide, by decide, by kernel_rfl⟩
    · exact ⟨17, by decide, by decide, by decide, by kernel_rfl⟩
    · exact ⟨6, by decide, by decide, by decide, by kernel_rfl⟩
    · exact ⟨4, by decide, by decide, by decide, by kernel_rfl⟩
  obtain ⟨q, q1, q2, q3, ch⟩ := ch
  have m2 := mod_nat (a := V) (b := q) q1
  have a2 : dBin .Add (.int 1) (.int ((V % q : Nat) : Int)) = some (.int ((1 + V % q : Nat) : Int)) := add_nat 1 _
  have hm : V % q < q := Nat.mod_lt _ q1
  generalize hM : 1 + V % q = m at a2
  have r1 := small_row (ns := ns) (by' := by') (q := 2) (r := 3) (m := m) (n := 1 + k) (by omega) (by omega) (by decide) (by decide) 2 3 rfl rfl (a2 := some (.int c)) (a5 := none) (a7 := none)
  have ok : ∀ f : Nat → Nat, Ok (m : Int) (1 + k) ((List.range (1 + k)).map fun i => ((f i % m : Nat) : Int)) := fun f => ⟨by rw [List.length_map, List.length_range], fun x hx => by
    obtain ⟨i, _, rfl⟩ := List.mem_map.mp hx
    have := Nat.mod_lt (f i) (show 0 < m by omega)
    omega⟩
  have o1 := ok fun i => lv (ns.getD (by' + i % 2) 0) (i + 3)
  have o2 := ok fun i => lv (ns.getD (by' + i % 3) 0) (i + 10)
  generalize ((List.range (1 + k)).map fun (i : Nat) => ((lv (ns.getD (by' + i % 2) 0) (i + 3) % m : Nat) : Int)) = ws at r1 o1
  have r2 := small_row (ns := ns) (by' := by') (q := 3) (r := 10) (m := m) (n := 1 + k) (by omega) (by omega) (by decide) (by decide) 3 10 rfl rfl (a2 := some (.int c)) (a5 := some (.ints ws)) (a7 := none)
  generalize ((List.range (1 + k)).map fun (i : Nat) => ((lv (ns.getD (by' + i % 3) 0) (i + 10) % m : Nat) : Int)) = b at r2 o2
  have hl := o1.len
  refine ⟨m, ws, b, ⟨by omega, by omega, o1.rng, by omega, by omega⟩, by rw [hl]; exact o2, ?_, ?_⟩
  · rw [hl]
    exact Nat.le_trans (Nat.pow_le_pow_left (by omega) _) q2
  · unfold F__law_small B__law_small
    walk_at "fn"
    walk_at "st"
end Den

/-! MF: echoes (plain). -/
namespace Mt
/-- f, within the modulus, leads s to o -/
def LeadsF (m : Nat) (s o : List Int) (f : Nat) : Prop := 1 ≤ f ∧ f ≤ m ∧ Nat.gcd m f = 1 ∧ sclm (m : Int) (f : Int) s = o
instance (m : Nat) (s o : List Int) (f : Nat) : Decidable (LeadsF m s o f) := by unfold LeadsF; infer_instance
/-- the least such number, else 0 -/
def facT (m : Nat) (s o : List Int) : Nat := ((List.range' 1 m).find? fun f => decide (LeadsF m s o f)).getD 0
theorem facT_spec (m : Nat) (s o : List Int) : (facT m s o = 0 ∧ ∀ f, ¬ LeadsF m s o f) ∨ (LeadsF m s o (facT m s o) ∧ ∀ f, f < facT m s o → ¬ LeadsF m s o f) := by
  unfold facT
  cases h : (List.range' 1 m).find? fun f => decide (LeadsF m s o f) with
  | none =>
    left
    refine ⟨rfl, fun f hf => ?_⟩
    have := List.find?_eq_none.mp h f (by rw [List.mem_range'_1]; exact ⟨hf.1, by have := hf.2.1; omega⟩)
    exact this (decide_eq_true hf)
  | some f =>
    right
    have h1 := List.find?_some h
    refine ⟨of_decide_eq_true h1, fun g hg hl => ?_⟩
    have hg' : g < f := hg
    obtain ⟨a, i, hi, e, hb⟩ := List.find?_eq_some_iff_getElem.mp h
    rw [List.length_range'] at hi
    have ef : 1 + i = f := by
      rw [List.getElem_range'] at e
      omega
    have g1 := hl.1
    have hq := hb (g - 1) (by omega)
    rw [List.getElem_range'] at hq
    rw [show 1 + 1 * (g - 1) = g by omega] at hq
    rw [decide_eq_true hl] at hq
    cases hq
theorem facT_pos {m : Nat} {s o : List Int} : 0 < facT m s o ↔ ∃ f, LeadsF m s o f := by
  rcases facT_spec m s o with ⟨a, b⟩ | ⟨a, b⟩
  · constructor
    · intro z
      omega
    · rintro ⟨f, hf⟩
      exact absurd hf (b f)
  · exact ⟨fun _ => ⟨_, a⟩, fun _ => a.1⟩
theorem facT_one {m : Nat} (hm : 1 ≤ m) {n : Nat} {s : List Int} (hs : Ok (m : Int) n s) : facT m s s = 1 := by
  have h1 : LeadsF m s s 1 := ⟨Nat.le_refl 1, hm, Nat.gcd_one_right m, by
    unfold sclm
    conv => rhs; rw [← List.map_id s]
    apply List.map_congr_left
    intro x hx
    have r := hs.rng x hx
    show ((1 : Nat) : Int) * x % (m : Int) = x
    rw [show ((1 : Nat) : Int) = 1 from rfl, Int.one_mul]
    exact Int.emod_eq_of_lt r.1 r.2⟩
  rcases facT_spec m s s with ⟨a, b⟩ | ⟨a, b⟩
  · exact absurd h1 (b 1)
  · have := a.1
    rcases Nat.lt_or_ge 1 (facT m s s) with z | z
    · exact absurd h1 (b 1 z)
    · omega
/-- some number with nothing in common, any size -/
theorem leads_any {m : Nat} (hm : 1 ≤ m) {s o : List Int} {f : Nat} (hf : Nat.gcd m f = 1) (h : sclm (m : Int) (f : Int) s = o) : ∃ g, LeadsF m s o g := by
  refine ⟨if f % m = 0 then m else f % m, ?_⟩
  have hc : sclm (m : Int) ((f % m : Nat) : Int) s = o := by
    rw [← h]
    unfold sclm
    apply List.map_congr_left
    intro x _
    rw [Int.natCast_emod, mul_emod_l]
  have hg : Nat.gcd m (f % m) = 1 := by
    rw [Nat.gcd_comm, ← Nat.gcd_rec]
    exact hf
  split
  · rename_i z
    rw [z, Nat.gcd_zero_right] at hg
    subst hg
    refine ⟨Nat.le_refl 1, Nat.le_refl 1, rfl, ?_⟩
    rw [← h]
    unfold sclm
    apply List.map_congr_left
    intro x _
    show _ % (1 : Int) = _ % (1 : Int)
    omega
  · rename_i z
    exact ⟨by omega, Nat.le_of_lt (Nat.mod_lt _ hm), hg, hc⟩
theorem sclm_mul (m a b : Int) (s : List Int) : sclm m a (sclm m b s) = sclm m (a * b) s := by
  unfold sclm
  rw [List.map_map]
  apply List.map_congr_left
  intro x _
  show a * (b * x % m) % m = _
  rw [mul_emod_r, Int.mul_assoc]
section
variable {m : Nat} {ws s : List Int}
/-- behind d steps comes so many times the first state -/
def Ech (m : Nat) (ws s : List Int) (d : Nat) : Prop := ∃ f, LeadsF m s (itr (stp (m : Int) ws) d s) f
theorem ech_add (hm : 1 ≤ m) (h1 : 1 ≤ s.length) {d e : Nat} (hd : Ech m ws s d) (he : Ech m ws s e) : Ech m ws s (d + e) := by
  obtain ⟨f, f1, f2, f3, f4⟩ := hd
  obtain ⟨g, g1, g2, g3, g4⟩ := he
  refine leads_any hm (f := g * f) (Nat.Coprime.mul_right g3 f3) ?_
  rw [itr_add, ← g4, itr_sclm h1, ← f4, sclm_mul, Int.natCast_mul]
theorem ech_sub (hm : 1 ≤ m) (h1 : 1 ≤ s.length) {n : Nat} (hs : Ok (m : Int) n s) (hn : 0 < n) {d e : Nat} (hd : Ech m ws s (e + d)) (he : Ech m ws s d) : Ech m ws s e := by
  obtain ⟨f, f1, f2, f3, f4⟩ := hd
  obtain ⟨g, g1, g2, g3, g4⟩ := he
  obtain ⟨x, y, b⟩ := bezout m g
  rw [g3] at b
  let i : Nat := (y % (m : Int)).toNat
  have ii : ((i : Nat) : Int) = y % (m : Int) := Int.toNat_of_nonneg (Int.emod_nonneg _ (by omega))
  have hi : ((i : Nat) : Int) * (g : Int) % (m : Int) = 1 % (m : Int) := by
    rw [ii, mul_emod_l, show y * (g : Int) = 1 + (m : Int) * (-x) by
      have := b
      grind, Int.add_mul_emod_self_left]
  have ci : Nat.gcd m i = 1 := by
    have hdv : Nat.gcd m i ∣ 1 % m := by
      have h2 : (i * g) % m = 1 % m := by
        have := hi
        rw [← Int.natCast_mul] at this
        have e1 : (((i * g) % m : Nat) : Int) = ((1 % m : Nat) : Int) := by
          rw [Int.natCast_emod, Int.natCast_emod]
          exact this
        exact Int.ofNat.inj e1
      rw [← h2]
      have a1 : Nat.gcd m i ∣ m := Nat.gcd_dvd_left _ _
      have a2 : Nat.gcd m i ∣ i * g := Nat.dvd_trans (Nat.gcd_dvd_right _ _) ⟨g, rfl⟩
      exact (Nat.dvd_mod_iff a1).mpr a2
    by_cases z : m = 1
    · rw [z, Nat.gcd_one_left]
    · rw [Nat.mod_eq_of_lt (by omega)] at hdv
      exact Nat.dvd_one.mp hdv
  refine leads_any hm (f := i * f) (Nat.Coprime.mul_right ci f3) ?_
  have e1 : sclm (m : Int) (g : Int) (itr (stp (m : Int) ws) e s) = sclm (m : Int) (f : Int) s := by
    rw [f4, ← itr_sclm h1, g4, itr_add]
  rw [Int.natCast_mul, ← sclm_mul, ← e1]
  exact sclm_back hi (ok_itr (by omega) hn hs e)
theorem ech_mul (hm : 1 ≤ m) (h1 : 1 ≤ s.length) {n : Nat} (hs : Ok (m : Int) n s) {d : Nat} (hd : Ech m ws s d) : ∀ c, Ech m ws s (d * c)
  | 0 => by
    have := facT_one hm hs
    have h : 0 < facT m s s := by omega
    exact facT_pos.mp h
  | c + 1 => by
    rw [Nat.mul_succ]
    exact ech_add hm h1 (ech_mul hm h1 hs hd c) hd
theorem ech_iff (hm : 1 ≤ m) (h1 : 1 ≤ s.length) {n : Nat} (hs : Ok (m : Int) n s) (hn : 0 < n) {E : Nat} (E1 : 1 ≤ E) (hE : Ech m ws s E) (hl : ∀ j, 1 ≤ j → j < E → ¬ Ech m ws s j) (d : Nat) : Ech m ws s d ↔ E ∣ d := by
  constructor
  · intro hd
    rcases Nat.eq_zero_or_pos (d % E) with z | z
    · exact Nat.dvd_of_mod_eq_zero z
    · exfalso
      refine hl (d % E) z (Nat.mod_lt _ E1) ?_
      refine ech_sub hm h1 hs hn (d := E * (d / E)) ?_ (ech_mul hm h1 hs hE _)
      rw [Nat.add_comm, Nat.div_add_mod]
      exact hd
  · rintro ⟨c, rfl⟩
    exact ech_mul hm h1 hs hE c
end
end Mt

/-! PI -/
namespace Den
open PySem L2 Mt
local macro_rules | `(tactic| walk_at "den") => `(tactic| (all_goals (try simp only [fnOf, sSeq, sFz, sAsg, sPar, sUnp, sDrop, sRet, sRetN, sIf, sNext, sNever, sPut, sApp, sMod, modAt, mApp, mPut, fzAt, fzAll, vAll, setAll, gN, gT, gSet, wipeT, vOf, bFz, vC, v1, v2, vBin, vNeg, vCmp, vChain, vAnd, vOr, vNot, bT, bAnd, bOr, bNot, vIf, bIx, dIx, O.isDict, vSl, opI, vNd, vCall, aAll, aPl, aNp, aMv, wSeq, wRange1, wRange2, wRange3, wZip, wEnum, bVar, bYes, dBin, dSub, dMod, dFdiv, dPow, dShl, dShr, i2, dNeg, dCmp, c2, dIs, dInt, dAbs, dMax, dMin, O.child, O.fz, O.toD, O.toDs, O.isVal, O.int?, O.bl?, O.v?, O.allFlat, O.allFlats, ob, om, Option.map_some, Option.bind_some, Option.map_none, Option.bind_none, Option.join_some, Option.join_none, List.length_cons, List.length_nil, List.map_cons, List.map_nil, List.replicate, List.cons_append, List.nil_append, List.getElem?_cons_zero, List.getElem?_cons_succ, List.set_cons_zero, List.set_cons_succ, if_true, if_false, Bool.false_eq_true, reduceIte, Nat.reduceAdd, Nat.reduceSub, Nat.reduceEqDiff, Bool.not_true, Bool.not_false, Bool.and_true, Bool.true_and, Bool.and_false, Bool.false_and, List.all_cons, List.all_nil, true_or, or_true, true_and, and_true, O.ty, dIsB, dAll, dAny, dSum, dLen, dList, dTuple, O.top, O.vals?, dSl, dAdd, dMul, ints?_map, ints?_map', bls?_map, bls?_map', toDs_map', vals_map', toDs_ints, vals_map, toDs_vals, List.length_map, dEq_int, dEq_ints, dEq_bl, cut_map, decide_true, decide_false, decide_eq_true_eq, Bool.not_eq_true', kit_ii, kit_ib, kit_ll, kit_tt, allFlats_ints, vals_mapI, Int.cast_ofNat_Int, Int.reduceAdd, Int.reduceSub, Int.reduceMul, Int.reduceNeg, Int.reduceLT, Int.reduceLE, Int.reduceEq, Int.reduceMod, Int.reduceDiv, Int.reducePow, Int.reduceToNat, Nat.reduceMul, Nat.reducePow, Nat.reduceLeDiff, Nat.reduceLT, decide_not, Int.ofNat_one, Int.ofNat_zero, ne_eq, not_true, not_false_iff, Int.reduceNe])))
local macro_rules | `(tactic| walk_at "sd") => `(tactic| first | with_reducible assumption | omega | decide)
local macro_rules | `(tactic| walk_at "toD") => `(tactic| first | with_reducible exact toD_val _ | with_reducible exact toD_ints _ | with_reducible exact toD_mat _ | with_reducible exact toD_wo _ _ | ((with_reducible apply toD_n); walk_at "toDs") | walk_at "leaf")
local macro_rules | `(tactic| walk_at "toDs") => `(tactic| first | with_reducible exact toDs_0 | with_reducible exact toDs_ints _ | with_reducible exact toDs_vals _ | with_reducible exact toDs_map' _ _ | ((with_reducible apply toDs_1); walk_at "toD"; walk_at "toDs"))
local macro_rules | `(tactic| walk_at "leaf") => `(tactic| with_reducible assumption)
local macro_rules | `(tactic| walk_at "op") => `(tactic| first | walk_at "leaf" | with_reducible exact add_e _ _ | with_reducible exact sub_e _ _ | exact mod_e (by walk_at "sd") | exact div_e (by walk_at "sd") (by walk_at "sd") | exact mul_e (by walk_at "sd") | exact mulL_ints _ _ (by walk_at "sd") (by walk_at "sd") | exact cat_ints (xs := _) (ys := _) (by walk_at "top") (by walk_at "top") (by walk_at "sd") | exact pow_e (by walk_at "sd") (by walk_at "sd") | walk_at "leaf")
local macro_rules | `(tactic| walk_at "top") => `(tactic| first | exact top_ints _ | exact top_vints _ | exact rfl)
local macro_rules | `(tactic| walk_at "cmp") => `(tactic| first | with_reducible assumption | with_reducible exact lt_e _ _ | with_reducible exact le_e _ _ | with_reducible exact gt_e _ _ | with_reducible exact ge_e _ _ | with_reducible exact eq_e _ _ | with_reducible exact ne_e _ _ | with_reducible exact is_bl _ _ | with_reducible exact nis_bl _ _ | ((with_reducible apply co_eq); walk_at "toD"; walk_at "toD"; walk_at "deq") | ((with_reducible apply co_ne); walk_at "toD"; walk_at "toD"; walk_at "deq") | walk_at "leaf")
local macro_rules | `(tactic| walk_at "deq") => `(tactic| first | walk_at "leaf" | exact dEq_ints _ _ | with_reducible exact dEq_wheel _ _ _ _ | exact dEq_bl _ _ | exact dEq_int _ _ | walk_at "leaf")
local macro_rules | `(tactic| walk_at "as") => `(tactic| first | with_reducible exact as_0 | ((with_reducible apply as_1); (first | ((with_reducible apply r_pl); walk_at "ev"; walk_at "toD"; exact rfl) | ((with_reducible apply r_np); walk_at "ev"; walk_at "toD") | ((with_reducible apply r_mv); walk_at "ev")); walk_at "as"))
local macro_rules | `(tactic| walk_at "all") => `(tactic| first | with_reducible exact all_0 | ((with_reducible apply all_1); walk_at "ev"; walk_at "all"))
local macro_rules | `(tactic| walk_at "ev") => `(tactic| first
  | with_reducible assumption
  | ((with_reducible apply r_var); walk_at "at")
  | with_reducible exact r_c
  | ((with_reducible apply r_fz); walk_at "ev"; walk_at "toD")
  | ((with_reducible apply r_of); walk_at "ev")
  | ((with_reducible apply e_bin); walk_at "ev"; walk_at "ev"; walk_at "op")
  | ((with_reducible apply r_cmp); walk_at "ev"; walk_at "ev"; walk_at "cmp")
  | ((with_reducible apply e_ix); walk_at "ev"; walk_at "ev"; walk_at "child")
  | ((with_reducible apply r_call); walk_at "as"; walk_at "leaf"; (first | exact .inl rfl | exact .inr ⟨rfl, rfl⟩ | exact .inr ⟨rfl, allFlat_ints _⟩ | exact .inr ⟨rfl, by walk_at "leaf"⟩))
  | ((with_reducible apply r_meth); walk_at "ev"; walk_at "leaf"; walk_at "leaf"; walk_at "leaf"; exact rfl; walk_at "ev")
  | ((with_reducible apply r_fld); walk_at "ev"; walk_at "leaf")
  | ((with_reducible apply r_T); walk_at "ev")
  | ((with_reducible apply r_bnot); walk_at "ev")
  | ((with_reducible apply r_band0); (with_reducible apply r_T); (with_reducible apply r_var); walk_at "at")
  | ((with_reducible apply r_bor1); (with_reducible apply r_T); (with_reducible apply r_var); walk_at "at")
  | ((with_reducible apply r_bor); walk_at "ev"; (intro hk; walk_at "ev"))
  | ((with_reducible apply r_band); walk_at "ev"; (intro hk; walk_at "ev"))
  | ((with_reducible apply r_or); walk_at "ev"; (intro hk; walk_at "ev"))
  | ((with_reducible apply r_and); walk_at "ev"; (intro hk; walk_at "ev"))
  | ((with_reducible apply r_not); walk_at "ev")
  | ((with_reducible apply r_neg); walk_at "ev")
  | ((with_reducible apply r_chain); walk_at "ev"; walk_at "ev"; walk_at "cmp"; (intro hk; walk_at "ev"); (intro hk; walk_at "cmp"))
  | ((with_reducible apply r_sl); walk_at "ev"; (first | with_reducible exact r_opn | (apply r_ops; walk_at "ev")); (first | with_reducible exact r_opn | (apply r_ops; walk_at "ev")); walk_at "leaf")
  | ((with_reducible apply e_nd); walk_at "all"; exact Nat.le_of_ble_eq_true rfl)
  | ((with_reducible apply e_v1); walk_at "ev"; walk_at "un")
  | ((with_reducible apply e_v2); walk_at "ev"; walk_at "ev"; walk_at "leaf")
  | walk_at "leaf")
local macro_rules | `(tactic| walk_at "un") => `(tactic| first | walk_at "leaf" | exact len_ints _ | exact list_ints _ | exact dRev_ints _ | exact dInt_bl _ | walk_at "leaf")
local macro_rules | `(tactic| walk_at "child") => `(tactic| first | walk_at "leaf" | with_reducible exact wheel_m _ _ | with_reducible exact wheel_w _ _ | exact child_ints (j := 0) (by walk_at "sd"))
local macro_rules | `(tactic| walk_at "set") => `(tactic| first | with_reducible exact l_set0 | ((with_reducible apply l_setS); walk_at "set"))
local macro_rules | `(tactic| walk_at "at") => `(tactic| first | with_reducible exact l_at0 | ((with_reducible apply l_atS); walk_at "at"))
local macro_rules | `(tactic| walk_at "fz") => `(tactic| first | with_reducible exact fz_0 | ((with_reducible apply fz_1); walk_at "at"; walk_at "toD"; walk_at "set"; walk_at "fz") | ((with_reducible apply fz_n); walk_at "at"; walk_at "fz"))
local macro_rules | `(tactic| walk_at "fa") => `(tactic| first | with_reducible exact fa_0 | ((with_reducible apply fa_n); walk_at "fa") | ((with_reducible apply fa_s); walk_at "toD"; walk_at "fa") | ((with_reducible apply fa_x); walk_at "fa"))
local macro_rules | `(tactic| walk_at "gt") => `(tactic| first | with_reducible exact gt_0 | ((with_reducible apply gt_1); walk_at "set"; walk_at "gt"))
local macro_rules | `(tactic| walk_at "sa") => `(tactic| first | with_reducible exact sa_0 | ((with_reducible apply sa_1); walk_at "set"; walk_at "sa"))
local macro_rules | `(tactic| walk_at "kt") => `(tactic| first | with_reducible assumption | exact rfl | (focus ((simp only [Bool.or_eq_true, Bool.and_eq_true, Bool.or_eq_false_iff, Bool.and_eq_false_iff, Bool.not_eq_true', Bool.not_eq_false', decide_eq_true_eq, decide_eq_false_iff_not, Bool.not_true, Bool.not_false, Bool.true_or, Bool.or_true, Bool.false_or, Bool.or_false, Bool.true_and, Bool.and_true, Bool.false_and, Bool.and_false, Bool.false_eq_true, Bool.true_eq_false, not_false_iff, true_and, and_true, or_true, true_or, false_or, or_false]) <;> omega)) | (focus (simp only [*, Bool.not_true, Bool.not_false, Bool.true_or, Bool.or_true, Bool.false_or, Bool.or_false, Bool.true_and, Bool.and_true, Bool.false_and, Bool.and_false, decide_true, decide_false]; done)) | walk_at "leaf")
local macro_rules | `(tactic| walk_at "ini") => `(tactic| ((simp only [List.map_cons, List.map_nil, List.cons_append, List.nil_append, List.replicate, Nat.reduceSub]); try exact rfl))
local macro_rules | `(tactic| walk_at "fn") => `(tactic| ((with_reducible apply fn_go); exact rfl; walk_at "ini"))
local macro_rules | `(tactic| walk_at "fnn") => `(tactic| ((with_reducible apply fn_gn); exact rfl; walk_at "ini"))
local macro_rules | `(tactic| walk_at "st") => `(tactic| first
  | with_reducible exact nx_rfl
  | ((with_reducible apply seq_nx); walk_at "st")
  | ((with_reducible apply seq_assoc); walk_at "st")
  | ((with_reducible apply seq_if); walk_at "ev"; first | (refine .inl ⟨?_, ?_⟩; walk_at "kt"; walk_at "st") | (refine .inr ⟨?_, ?_⟩; walk_at "kt"; walk_at "st"))
  | ((with_reducible apply seq_fz); walk_at "fz"; walk_at "st")
  | ((with_reducible apply seq_rt); first | ((with_reducible apply s_ret); walk_at "fa"; walk_at "ev") | ((with_reducible apply s_retN); walk_at "at"))
  | ((with_reducible apply seq_go); walk_at "s1"; walk_at "st"))
local macro_rules | `(tactic| walk_at "s1") => `(tactic| first
  | ((with_reducible apply s_asg); walk_at "ev"; walk_at "set")
  | ((with_reducible apply s_drop); walk_at "ev")
  | ((with_reducible apply s_par); walk_at "all"; walk_at "sa")
  | ((with_reducible apply s_unp); walk_at "ev"; (with_reducible apply gt_t); walk_at "gt")
  | ((with_reducible apply s_app); walk_at "ev"; walk_at "toD"; walk_at "at"; walk_at "sd"; walk_at "set")
  | walk_at "leaf")
noncomputable def W_factor_to_1 : SE := (sSeq (sFz [1] (sIf (bAnd (bT (vCmp .Eq (bFz (vBin .Mod (bFz (vBin .Mult (bVar 3) (bIx (bVar 1) (bFz (vC (.int 0)))))) (bVar 0))) (bIx (bVar 2) (bFz (vC (.int 0)))))) (bT (vCmp .Eq (bFz (vLc (wSeq (bVar 1)) [4] (gN 4) bYes (vBin .Mod (bFz (vBin .Mult (bVar 3) (bVar 4))) (bVar 0)))) (bVar 2)))) (sSeq (sIf (bT (vCmp .Eq (bFz (vCall F_common [(aPl (bVar 0)), (aPl (bVar 3))])) (bFz (vC (.int 1))))) (sSeq (sRetN 3) sNext) sNext) sNext) sNext)) sNext)
noncomputable def B_factor_to : SE := (sSeq (sFor (wRange2 (bFz (vC (.int 1))) (bFz (vBin .Add (bVar 0) (bFz (vC (.int 1)))))) (gN 3) W_factor_to_1) (sSeq (sRet (vC (.int 0))) sNext))
noncomputable def F_factor_to : Fn := fnOf 3 5 B_factor_to
noncomputable def W_echo_1 : BE := (bAnd (bT (vCmp .Gt (bVar 10) (bFz (vC (.int 0))))) (bT (vCmp .Eq (bFz (vBin .Mod (bVar 7) (bVar 9))) (bFz (vC (.int 0))))))
noncomputable def W_echo_2 : SE := (sSeq (sAsg 10 (vCall F_factor_to [(aPl (bIx (bVar 0) (bFz (vC (.int 0))))), (aPl (bVar 5)), (aNp (vCall F_led_on [(aPl (bIx (bVar 0) (bFz (vC (.int 0))))), (aPl (bVar 6)), (aPl (bVar 5)), (aNp (vBin .FloorDiv (bVar 7) (bVar 9)))]))])) (sSeq (sIf (bT (vCmp .Gt (bVar 10) (bFz (vC (.int 0))))) (sSeq (sFz [10] (sPar [7, 8] [(vBin .FloorDiv (bVar 7) (bVar 9)), (vOf (bVar 10))])) sNext) sNext) sNext))
noncomputable def W_echo_3 : SE := (sSeq (sAsg 10 (vC (.int 1))) (sSeq (sWhile W_echo_1 W_echo_2) sNext))
noncomputable def B_echo : SE := (sSeq (sDrop (vCall F_check_wheel [(aPl (bVar 0))])) (sSeq (sDrop (vCall F_check_beginning [(aPl (bVar 0)), (aPl (bVar 1))])) (sSeq (sUnp [2, 3, 4, 5] (bFz (vCall F_course_of [(aPl (bVar 0)), (aPl (bVar 1))]))) (sSeq (sAsg 6 (vCall F_ladder_of [(aPl (bIx (bVar 0) (bFz (vC (.int 0))))), (aNp (vCall F_table_of [(aPl (bVar 0))])), (aPl (bVar 3))])) (sSeq (sFz [3] (sPar [7, 8] [(vOf (bVar 3)), (vC (.int 1))])) (sSeq (sFz [4] (sFor (wSeq (bVar 4)) (gN 9) W_echo_3)) (sSeq (sRet (vNd .tup [(vOf (bVar 7)), (vOf (bVar 8))])) sNext)))))))
noncomputable def F_echo : Fn := fnOf 2 11 B_echo
noncomputable def W__law_factor_1 : SE := (sSeq (sIf (bAnd (bT (vCmp .Eq (bFz (vBin .Mod (bFz (vBin .Mult (bVar 3) (bIx (bVar 1) (bFz (vC (.int 0)))))) (bVar 0))) (bIx (bVar 2) (bFz (vC (.int 0)))))) (bT (vCmp .Eq (bFz (vBin .Mod (bFz (vBin .Mult (bVar 3) (bIx (bVar 1) (bFz (vNeg (bFz (vC (.int 1)))))))) (bVar 0))) (bIx (bVar 2) (bFz (vNeg (bFz (vC (.int 1))))))))) (sSeq (sFz [1] (sAsg 4 (vLc (wSeq (bVar 1)) [5] (gN 5) bYes (vBin .Mod (bFz (vBin .Mult (bVar 3) (bVar 5))) (bVar 0))))) (sSeq (sIf (bAnd (bT (vCmp .Eq (bVar 4) (bVar 2))) (bT (vCmp .Eq (bFz (vCall F__law_common [(aPl (bVar 0)), (aPl (bVar 3))])) (bFz (vC (.int 1)))))) (sSeq (sRetN 3) sNext) sNext) sNext)) sNext) sNext)
noncomputable def B__law_factor : SE := (sSeq (sFor (wRange2 (bFz (vC (.int 1))) (bFz (vBin .Add (bVar 0) (bFz (vC (.int 1)))))) (gN 3) W__law_factor_1) (sSeq (sRet (vC (.int 0))) sNext))
noncomputable def F__law_factor : Fn := fnOf 3 6 B__law_factor
noncomputable def W__law_small_right_1 : BE := (bT (vCmp .Eq (bVar 7) (bFz (vC (.int 0)))))
noncomputable def W__law_small_right_2 : SE := (sSeq (sPar [5, 6] [(vCall F__law_step [(aPl (bVar 0)), (aPl (bVar 5))]), (vBin .Add (bVar 6) (bFz (vC (.int 1))))]) (sSeq (sAsg 7 (vCall F__law_factor [(aPl (bIx (bVar 0) (bFz (vC (.int 0))))), (aPl (bVar 4)), (aPl (bVar 5))])) sNext))
noncomputable def B__law_small_right : SE := (sSeq (sUnp [2, 3] (bFz (vCall F__law_course [(aPl (bVar 0)), (aPl (bVar 1))]))) (sSeq (sFz [0, 1, 2] (sAsg 4 (vCall F__law_walk [(aPl (bVar 0)), (aPl (bVar 1)), (aPl (bVar 2))]))) (sSeq (sPar [5, 6, 7] [(vCall F__law_step [(aPl (bVar 0)), (aPl (bVar 4))]), (vC (.int 1)), (vC (.int 0))]) (sSeq (sAsg 7 (vCall F__law_factor [(aPl (bIx (bVar 0) (bFz (vC (.int 0))))), (aPl (bVar 4)), (aPl (bVar 5))])) (sSeq (sWhile W__law_small_right_1 W__law_small_right_2) (sSeq (sRet (vCmp .Eq (bFz (vCall F_echo [(aPl (bVar 0)), (aPl (bVar 1))])) (bFz (vNd .tup [(vOf (bVar 6)), (vOf (bVar 7))])))) sNext))))))
noncomputable def F__law_small_right : Fn := fnOf 2 8 B__law_small_right
theorem iota_r (n i : Nat) : iota (i : Int) n = (List.range' i n).map fun (k : Nat) => D.int (k : Int) := by
  unfold iota
  rw [List.range'_eq_map_range, List.map_map]
  apply List.map_congr_left
  intro k _
  show D.int ((i : Int) + (k : Int)) = D.int ((i + k : Nat) : Int)
  rw [Int.natCast_add]
theorem wr2 {a b : VE} {t : Tau} {i j : Nat} (ha : a t = some (.int (i : Int))) (hb : b t = some (.int (j : Int))) (hi : i ≤ 1000000000) (hj : j ≤ 1000000000) : wRange2 a b t = some ((List.range' i (j - i)).map fun (k : Nat) => D.int (k : Int)) := by
  unfold wRange2
  rw [ha, ob, hb, ob, show (O.int (i : Int)).int? = some (i : Int) from rfl, ob, show (O.int (j : Int)).int? = some (j : Int) from rfl, ob, if_pos (by omega), iota_r]
  congr 3
  omega
section
variable {m : Nat} {n : Nat} {s o : List Int}
theorem facT_is {f : Nat} (h : LeadsF m s o f) (hl : ∀ g, g < f → ¬ LeadsF m s o g) : facT m s o = f := by
  rcases facT_spec m s o with ⟨a, b⟩ | ⟨a, b⟩
  · exact absurd h (b f)
  · rcases Nat.lt_trichotomy (facT m s o) f with z | z | z
    · exact absurd a (hl _ z)
    · exact z
    · exact absurd h (b f z)
theorem lc_sclm {t : Tau} {i v p q : Nat} (hs : bVar 1 t = some (.val (.ints s))) (hl : s.length ≤ big) (m1 : 1 ≤ m) (hx : ∀ x ∈ s, 0 ≤ x ∧ x < 1001) (hi : i ≤ 1000) (h : ∀ x : Int, ∃ t1, gN v (D.int x) (wipeT t [v]) = some t1 ∧ bVar v t1 = some (.int x) ∧ bVar p t1 = some (.int (i : Int)) ∧ bVar q t1 = some (.int (m : Int))) : vLc (wSeq (bVar 1)) [v] (gN v) bYes (vBin .Mod (bFz (vBin .Mult (bVar p) (bVar v))) (bVar q)) t = some (.ints (sclm (m : Int) (i : Int) s)) := by
  rw [vLc_map (xs := s) (φ := D.int) (ψ := fun x => D.int ((i : Int) * x % (m : Int))) (by unfold wSeq; rw [hs]; rfl) hl fun x hx' => ?_]
  · exact congrArg some (ints_of s fun x => (i : Int) * x % (m : Int))
  · obtain ⟨t1, g1, g2, g3, g4⟩ := h x
    exact el (o := .int ((i : Int) * x % (m : Int))) g1 (e_bin (e_fz (e_bin g3 g2 (mul_sm (by omega) (hx x hx')))) g4 (mod_e (by omega)))
theorem fac_turn (m1 : 1 ≤ m) (m2 : m ≤ 1000) (hs : Ok (m : Int) n s) (ho : Ok (m : Int) n o) (n1 : 1 ≤ n) (n4 : n ≤ 4) {i : Nat} (hi : i ≤ m) : W_factor_to_1 [some (.int (m : Int)), some (.val (.ints s)), some (.val (.ints o)), some (.int (i : Int)), none] = if sclm (m : Int) (i : Int) s = o ∧ Nat.gcd m i = 1 then some (.rt (.int (i : Int))) else some (.nx [some (.int (m : Int)), some (.val (.ints s)), some (.val (.ints o)), some (.int (i : Int)), none]) := by
  have sl := hs.len
  have ol := ho.len
  have s0 : (O.val (.ints s)).child 0 = some (.int (s.getD 0 0)) := child_ints (j := 0) (by omega)
  have o0 : (O.val (.ints o)).child 0 = some (.int (o.getD 0 0)) := child_ints (j := 0) (by omega)
  have hx : ∀ x ∈ s, 0 ≤ x ∧ x < 1001 := fun x hx => by
    have := hs.rng x hx
    omega
  have hs0 : s.getD 0 0 ∈ s := by
    rw [List.getD_eq_getElem?_getD, List.getElem?_eq_getElem (by omega)]
    exact List.getElem_mem _
  have mx := mul_sm (x := (i : Int)) (y := s.getD 0 0) (by omega) (hx _ hs0)
  have l := lc_sclm (t := [some (.int (m : Int)), some (.val (.ints s)), some (.val (.ints o)), some (.int (i : Int)), none]) (v := 4) (p := 3) (q := 0) rfl (by rw [sl]; exact big4 n4) m1 hx (show i ≤ 1000 by omega) fun x => ⟨[some (.int (m : Int)), some (.val (.ints s)), some (.val (.ints o)), some (.int (i : Int)), some (.int x)], rfl, rfl, rfl, rfl⟩
  have e := dEq_ints (sclm (m : Int) (i : Int) s) o
  have cm := common_nat m i
  by_cases h1 : sclm (m : Int) (i : Int) s = o
  · have f0 : (i : Int) * s.getD 0 0 % (m : Int) = o.getD 0 0 := by
      rw [← h1]
      unfold sclm
      rw [List.getD_eq_getElem?_getD, List.getD_eq_getElem?_getD, List.getElem?_map, List.getElem?_eq_getElem (show 0 < s.length by omega)]
      rfl
    have c1 : dCmp .Eq (.int ((i : Int) * s.getD 0 0 % (m : Int))) (.int (o.getD 0 0)) = some true := by rw [eq_e, decide_eq_true f0]
    rw [decide_eq_true h1] at e
    by_cases h2 : Nat.gcd m i = 1
    · rw [if_pos ⟨h1, h2⟩]
      have c2 : dCmp .Eq (.int (Nat.gcd m i : Int)) (.int 1) = some true := by
        have := eq_natc (Nat.gcd m i) 1
        rw [decide_eq_true h2] at this
        exact this
      unfold W_factor_to_1
      walk_at "st"
    · rw [if_neg fun z => h2 z.2]
      have c2 : dCmp .Eq (.int (Nat.gcd m i : Int)) (.int 1) = some false := by
        have := eq_natc (Nat.gcd m i) 1
        rw [decide_eq_false h2] at this
        exact this
      unfold W_factor_to_1
      walk_at "st"
  · rw [if_neg fun z => h1 z.1]
    rw [decide_eq_false h1] at e
    unfold W_factor_to_1
    walk_at "st"
theorem fac_go (m1 : 1 ≤ m) (m2 : m ≤ 1000) (hs : Ok (m : Int) n s) (ho : Ok (m : Int) n o) (n1 : 1 ≤ n) (n4 : n ≤ 4) : ∀ (c i : Nat) (x : Option O), i + c = m + 1 → 1 ≤ i → (∀ f, f < i → ¬ LeadsF m s o f) → (0 < facT m s o ∧ forIn' (gN 3) W_factor_to_1 ((List.range' i c).map fun (k : Nat) => D.int (k : Int)) [some (.int (m : Int)), some (.val (.ints s)), some (.val (.ints o)), x, none] = some (.rt (.int (facT m s o : Int)))) ∨ (facT m s o = 0 ∧ ∃ x', forIn' (gN 3) W_factor_to_1 ((List.range' i c).map fun (k : Nat) => D.int (k : Int)) [some (.int (m : Int)), some (.val (.ints s)), some (.val (.ints o)), x, none] = some (.nx [some (.int (m : Int)), some (.val (.ints s)), some (.val (.ints o)), x', none]))
  | 0, i, x, hc, i1, hl => by
    right
    refine ⟨?_, x, rfl⟩
    rcases facT_spec m s o with ⟨a, b⟩ | ⟨a, b⟩
    · exact a
    · exact absurd a (hl _ (by have := a.2.1; omega))
  | c + 1, i, x, hc, i1, hl => by
    have t := fac_turn m1 m2 hs ho n1 n4 (i := i) (by omega)
    by_cases z : sclm (m : Int) (i : Int) s = o ∧ Nat.gcd m i = 1
    · left
      have hL : LeadsF m s o i := ⟨i1, by omega, z.2, z.1⟩
      rw [if_pos z] at t
      rw [facT_is hL hl]
      exact ⟨i1, for_ret rfl t⟩
    · rw [if_neg z] at t
      have hl' : ∀ f, f < i + 1 → ¬ LeadsF m s o f := fun f hf hL => by
        by_cases w : f = i
        · subst w
          exact z ⟨hL.2.2.2, hL.2.2.1⟩
        · exact hl f (by omega) hL
      rcases fac_go m1 m2 hs ho n1 n4 c (i + 1) (some (.int (i : Int))) (by omega) (by omega) hl' with ⟨a, b⟩ | ⟨a, x', b⟩
      · exact .inl ⟨a, for_cons rfl t b⟩
      · exact .inr ⟨a, x', for_cons rfl t b⟩
theorem factor_to_ok (m1 : 1 ≤ m) (m2 : m ≤ 1000) (hs : Ok (m : Int) n s) (ho : Ok (m : Int) n o) (n1 : 1 ≤ n) (n4 : n ≤ 4) : F_factor_to [.int (m : Int), .val (.ints s), .val (.ints o)] = some (.int (facT m s o : Int)) := by
  have am : dBin .Add (.int (m : Int)) (.int 1) = some (.int ((m + 1 : Nat) : Int)) := add_nat m 1
  have e2 : bFz (vBin .Add (bVar 0) (bFz (vC (.int 1)))) [some (.int (m : Int)), some (.val (.ints s)), some (.val (.ints o)), none, none] = some (.int ((m + 1 : Nat) : Int)) := by walk_at "ev"
  have w := wr2 (a := bFz (vC (.int 1))) (i := 1) rfl e2 (by decide) (by omega)
  rw [Nat.add_sub_cancel] at w
  unfold F_factor_to B_factor_to
  rcases fac_go m1 m2 hs ho n1 n4 m 1 none (by omega) (Nat.le_refl 1) (fun f hf hL => by have := hL.1; omega) with ⟨a, b⟩ | ⟨a, x', b⟩
  · exact fn_go rfl (t := [some (.int (m : Int)), some (.val (.ints s)), some (.val (.ints o)), none, none]) rfl (seq_rt (f_go w b))
  · have f := f_go w b
    rw [a]
    show _ = some (O.int 0)
    walk_at "fn"
    walk_at "st"
end
section
variable {m : Nat} {n : Nat} {s o : List Int}
theorem sclm_at {i j : Nat} (h1 : sclm (m : Int) (i : Int) s = o) (hj : j < s.length) : (i : Int) * s.getD j 0 % (m : Int) = o.getD j 0 := by
  rw [← h1]
  unfold sclm
  rw [List.getD_eq_getElem?_getD, List.getD_eq_getElem?_getD, List.getElem?_map, List.getElem?_eq_getElem hj]
  rfl
theorem lf_turn (m1 : 1 ≤ m) (m2 : m ≤ 1000) (hs : Ok (m : Int) n s) (ho : Ok (m : Int) n o) (n1 : 1 ≤ n) (n4 : n ≤ 4) {i : Nat} (hi : i ≤ m) (x4 : Option O) : (sclm (m : Int) (i : Int) s = o ∧ Nat.gcd m i = 1 → W__law_factor_1 [some (.int (m : Int)), some (.val (.ints s)), some (.val (.ints o)), some (.int (i : Int)), x4, none] = some (.rt (.int (i : Int)))) ∧ (¬ (sclm (m : Int) (i : Int) s = o ∧ Nat.gcd m i = 1) → ∃ y4, W__law_factor_1 [some (.int (m : Int)), some (.val (.ints s)), some (.val (.ints o)), some (.int (i : Int)), x4, none] = some (.nx [some (.int (m : Int)), some (.val (.ints s)), some (.val (.ints o)), some (.int (i : Int)), y4, none])) := by
  have sl := hs.len
  have ol := ho.len
  have s0 : (O.val (.ints s)).child 0 = some (.int (s.getD 0 0)) := child_ints (j := 0) (by omega)
  have o0 : (O.val (.ints o)).child 0 = some (.int (o.getD 0 0)) := child_ints (j := 0) (by omega)
  have sz := child_last (r := s) (by omega)
  have oz := child_last (r := o) (by omega)
  have hx : ∀ x ∈ s, 0 ≤ x ∧ x < 1001 := fun x hx => by
    have := hs.rng x hx
    omega
  have mem : ∀ j, j < s.length → s.getD j 0 ∈ s := fun j hj => by
    rw [List.getD_eq_getElem?_getD, List.getElem?_eq_getElem hj]
    exact List.getElem_mem _
  have mx := mul_sm (x := (i : Int)) (y := s.getD 0 0) (by omega) (hx _ (mem 0 (by omega)))
  have mz := mul_sm (x := (i : Int)) (y := s.getD (s.length - 1) 0) (by omega) (hx _ (mem _ (by omega)))
  have l := lc_sclm (t := [some (.int (m : Int)), some (.val (.ints s)), some (.val (.ints o)), some (.int (i : Int)), x4, none]) (v := 5) (p := 3) (q := 0) rfl (by rw [sl]; exact big4 n4) m1 hx (show i ≤ 1000 by omega) fun x => ⟨[some (.int (m : Int)), some (.val (.ints s)), some (.val (.ints o)), some (.int (i : Int)), x4, some (.int x)], rfl, rfl, rfl, rfl⟩
  have e := dEq_ints (sclm (m : Int) (i : Int) s) o
  have cm := law_common_nat m i
  have c2 : dCmp .Eq (.int (Nat.gcd m i : Int)) (.int 1) = some (decide (Nat.gcd m i = 1)) := eq_natc (Nat.gcd m i) 1
  have c0 := eq_e ((i : Int) * s.getD 0 0 % (m : Int)) (o.getD 0 0)
  have cz := eq_e ((i : Int) * s.getD (s.length - 1) 0 % (m : Int)) (o.getD (o.length - 1) 0)
  constructor
  · rintro ⟨h1, h2⟩
    rw [decide_eq_true h1] at e
    rw [decide_eq_true h2] at c2
    rw [decide_eq_true (sclm_at h1 (show 0 < s.length by omega))] at c0
    rw [decide_eq_true (by rw [show o.length - 1 = s.length - 1 by omega]; exact sclm_at h1 (by omega))] at cz
    unfold W__law_factor_1
    walk_at "st"
  · intro h
    generalize decide ((i : Int) * s.getD 0 0 % (m : Int) = o.getD 0 0) = k0 at c0
    generalize decide ((i : Int) * s.getD (s.length - 1) 0 % (m : Int) = o.getD (o.length - 1) 0) = kz at cz
    have hk : (decide (sclm (m : Int) (i : Int) s = o) && decide (Nat.gcd m i = 1)) = false := by
      rw [← Bool.decide_and, decide_eq_false h]
    generalize decide (sclm (m : Int) (i : Int) s = o) = ke at e hk
    generalize decide (Nat.gcd m i = 1) = kg at c2 hk
    cases k0 with
    | false =>
      refine ⟨x4, ?_⟩
      unfold W__law_factor_1
      walk_at "st"
    | true =>
      cases kz with
      | false =>
        refine ⟨x4, ?_⟩
        unfold W__law_factor_1
        walk_at "st"
      | true =>
        refine ⟨some (.ints (sclm (m : Int) (i : Int) s)), ?_⟩
        unfold W__law_factor_1
        walk_at "st"
theorem lf_go (m1 : 1 ≤ m) (m2 : m ≤ 1000) (hs : Ok (m : Int) n s) (ho : Ok (m : Int) n o) (n1 : 1 ≤ n) (n4 : n ≤ 4) : ∀ (c i : Nat) (x x4 : Option O), i + c = m + 1 → 1 ≤ i → (∀ f, f < i → ¬ LeadsF m s o f) → (0 < facT m s o ∧ forIn' (gN 3) W__law_factor_1 ((List.range' i c).map fun (k : Nat) => D.int (k : Int)) [some (.int (m : Int)), some (.val (.ints s)), some (.val (.ints o)), x, x4, none] = some (.rt (.int (facT m s o : Int)))) ∨ (facT m s o = 0 ∧ ∃ x' y4, forIn' (gN 3) W__law_factor_1 ((List.range' i c).map fun (k : Nat) => D.int (k : Int)) [some (.int (m : Int)), some (.val (.ints s)), some (.val (.ints o)), x, x4, none] = some (.nx [some (.int (m : Int)), some (.val (.ints s)), some (.val (.ints o)), x', y4, none]))
  | 0, i, x, x4, hc, i1, hl => by
    right
    refine ⟨?_, x, x4, rfl⟩
    rcases facT_spec m s o with ⟨a, b⟩ | ⟨a, b⟩
    · exact a
    · exact absurd a (hl _ (by have := a.2.1; omega))
  | c + 1, i, x, x4, hc, i1, hl => by
    have t := lf_turn m1 m2 hs ho n1 n4 (i := i) (by omega) x4
    by_cases z : sclm (m : Int) (i : Int) s = o ∧ Nat.gcd m i = 1
    · left
      have hL : LeadsF m s o i := ⟨i1, by omega, z.2, z.1⟩
      rw [facT_is hL hl]
      exact ⟨i1, for_ret rfl (t.1 z)⟩
    · obtain ⟨y4, t⟩ := t.2 z
      have hl' : ∀ f, f < i + 1 → ¬ LeadsF m s o f := fun f hf hL => by
        by_cases w : f = i
        · subst w
          exact z ⟨hL.2.2.2, hL.2.2.1⟩
        · exact hl f (by omega) hL
      rcases lf_go m1 m2 hs ho n1 n4 c (i + 1) (some (.int (i : Int))) y4 (by omega) (by omega) hl' with ⟨a, b⟩ | ⟨a, x', z4, b⟩
      · exact .inl ⟨a, for_cons rfl t b⟩
      · exact .inr ⟨a, x', z4, for_cons rfl t b⟩
theorem law_factor_ok (m1 : 1 ≤ m) (m2 : m ≤ 1000) (hs : Ok (m : Int) n s) (ho : Ok (m : Int) n o) (n1 : 1 ≤ n) (n4 : n ≤ 4) : F__law_factor [.int (m : Int), .val (.ints s), .val (.ints o)] = some (.int (facT m s o : Int)) := by
  have am : dBin .Add (.int (m : Int)) (.int 1) = some (.int ((m + 1 : Nat) : Int)) := add_nat m 1
  have e2 : bFz (vBin .Add (bVar 0) (bFz (vC (.int 1)))) [some (.int (m : Int)), some (.val (.ints s)), some (.val (.ints o)), none, none, none] = some (.int ((m + 1 : Nat) : Int)) := by walk_at "ev"
  have w := wr2 (a := bFz (vC (.int 1))) (i := 1) rfl e2 (by decide) (by omega)
  rw [Nat.add_sub_cancel] at w
  unfold F__law_factor B__law_factor
  rcases lf_go m1 m2 hs ho n1 n4 m 1 none none (by omega) (Nat.le_refl 1) (fun f hf hL => by have := hL.1; omega) with ⟨a, b⟩ | ⟨a, x', y4, b⟩
  · exact fn_go rfl (t := [some (.int (m : Int)), some (.val (.ints s)), some (.val (.ints o)), none, none, none]) rfl (seq_rt (f_go w b))
  · have f := f_go w b
    rw [a]
    show _ = some (O.int 0)
    walk_at "fn"
    walk_at "st"
end
section
variable {m : Nat} {ws s : List Int}
theorem ep_go (h : Wh (m : Int) ws) (hs : Ok (m : Int) ws.length s) {L E B p : Nat} (hB : B < 2 ^ L) (hp : 2 ≤ p) (hp2 : p < 1000000) (hE : ∀ d, Ech m ws s d ↔ E ∣ d) (a1 a2 a3 a4 : Option O) : ∀ (f n l : Nat), n ≤ f → 1 ≤ n → n ≤ B → 0 < l → ∃ l', sWhile W_echo_1 W_echo_2 [some (.val (.wheel (m : Int) ws)), a1, a2, a3, a4, some (.val (.ints s)), some (.mats (ldr m ws L)), some (.int (n : Int)), some (.int (facT m s (itr (stp (m : Int) ws) n s) : Int)), some (.int (p : Int)), some (.int (l : Int))] = some (.nx [some (.val (.wheel (m : Int) ws)), a1, a2, a3, a4, some (.val (.ints s)), some (.mats (ldr m ws L)), some (.int (lessP E p f n : Int)), some (.int (facT m s (itr (stp (m : Int) ws) (lessP E p f n) s) : Int)), some (.int (p : Int)), l']) := by
  have m1 : 1 ≤ m := by have := h.lo; omega
  have m2 : m ≤ 1000 := by have := h.hi; omega
  have htm := toD_mats (ldr m ws L)
  have cnd : ∀ n l : Nat, W_echo_1 [some (.val (.wheel (m : Int) ws)), a1, a2, a3, a4, some (.val (.ints s)), some (.mats (ldr m ws L)), some (.int (n : Int)), some (.int (facT m s (itr (stp (m : Int) ws) n s) : Int)), some (.int (p : Int)), some (.int (l : Int))] = some (decide (0 < l) && decide (n % p = 0)) := fun n l => by
    have c1 : dCmp .Gt (.int (l : Int)) (.int 0) = some (decide (0 < l)) := gt_nat l 0
    have m1 := mod_nat (a := n) (b := p) (by omega)
    have c2 : dCmp .Eq (.int ((n % p : Nat) : Int)) (.int 0) = some (decide (n % p = 0)) := eq_natc _ 0
    unfold W_echo_1
    walk_at "ev"
  intro f
  induction f with
  | zero => intro n l h1 h2; omega
  | succ f ih =>
    intro n l hn n1 nB l0
    unfold lessP
    by_cases z : n % p = 0
    · have nq : n / p < n := Nat.div_lt_self (by omega) (by omega)
      have q0 : 1 ≤ n / p := Nat.div_pos (Nat.le_of_dvd n1 (Nat.dvd_of_mod_eq_zero z)) (by omega)
      have d1 := divN (a := n) (b := p) (by omega) (le8 (by omega))
      have q1 := led_own h (L := L) hs (k := n / p) q0 (by omega)
      have ft := factor_to_ok m1 m2 hs (ok_it h hs (n / p)) h.len h.most
      have ct : W_echo_1 [some (.val (.wheel (m : Int) ws)), a1, a2, a3, a4, some (.val (.ints s)), some (.mats (ldr m ws L)), some (.int (n : Int)), some (.int (facT m s (itr (stp (m : Int) ws) n s) : Int)), some (.int (p : Int)), some (.int (l : Int))] = some true := by
        rw [cnd, decide_eq_true l0, decide_eq_true z]
        rfl
      have c1 : dCmp .Gt (.int (facT m s (itr (stp (m : Int) ws) (n / p) s) : Int)) (.int 0) = some (decide (0 < facT m s (itr (stp (m : Int) ws) (n / p) s))) := gt_nat _ 0
      by_cases y : 0 < facT m s (itr (stp (m : Int) ws) (n / p) s)
      · rw [decide_eq_true y] at c1
        have hd : n / p % E = 0 := Nat.mod_eq_zero_of_dvd ((hE _).mp (facT_pos.mp y))
        rw [if_pos ⟨z, hd⟩]
        obtain ⟨l', e⟩ := ih (n / p) (facT m s (itr (stp (m : Int) ws) (n / p) s)) (by omega) q0 (by omega) y
        refine ⟨l', while_turn ct ?_ e⟩
        unfold W_echo_2
        walk_at "st"
      · rw [decide_eq_false y] at c1
        have hd : ¬ (n % p = 0 ∧ n / p % E = 0) := fun w => y (facT_pos.mpr ((hE _).mpr (Nat.dvd_of_mod_eq_zero w.2)))
        rw [if_neg hd]
        refine ⟨some (.int (facT m s (itr (stp (m : Int) ws) (n / p) s) : Int)), while_turn (t2 := [some (.val (.wheel (m : Int) ws)), a1, a2, a3, a4, some (.val (.ints s)), some (.mats (ldr m ws L)), some (.int (n : Int)), some (.int (facT m s (itr (stp (m : Int) ws) n s) : Int)), some (.int (p : Int)), some (.int (facT m s (itr (stp (m : Int) ws) (n / p) s) : Int))]) ct ?_ (while_end (by rw [cnd, decide_eq_false y]; rfl))⟩
        unfold W_echo_2
        walk_at "st"
    · rw [if_neg fun w => z w.1]
      exact ⟨some (.int (l : Int)), while_end (by rw [cnd, decide_eq_false z, Bool.and_false])⟩
theorem eL_go (h : Wh (m : Int) ws) (hs : Ok (m : Int) ws.length s) {L E B : Nat} (hB : B < 2 ^ L) (E1 : 1 ≤ E) (hE : ∀ d, Ech m ws s d ↔ E ∣ d) (a1 a2 a3 a4 : Option O) : ∀ (S : List Nat) (n : Nat) (x y : Option O), (∀ q ∈ S, 2 ≤ q ∧ q < 1000000) → 1 ≤ n → n ≤ B → E ∣ n → ∃ x' y', forIn' (gN 9) W_echo_3 (S.map fun (q : Nat) => D.int (q : Int)) [some (.val (.wheel (m : Int) ws)), a1, a2, a3, a4, some (.val (.ints s)), some (.mats (ldr m ws L)), some (.int (n : Int)), some (.int (facT m s (itr (stp (m : Int) ws) n s) : Int)), x, y] = some (.nx [some (.val (.wheel (m : Int) ws)), a1, a2, a3, a4, some (.val (.ints s)), some (.mats (ldr m ws L)), some (.int (lessL E S n : Int)), some (.int (facT m s (itr (stp (m : Int) ws) (lessL E S n) s) : Int)), x', y'])
  | [], n, x, y, _, _, _, _ => ⟨x, y, rfl⟩
  | p :: S, n, x, y, hS, n1, nB, hd => by
    obtain ⟨p2, p6⟩ := hS p List.mem_cons_self
    obtain ⟨b1, b2, b3, _⟩ := lessP_ok E1 p2 n n (Nat.le_refl n) n1 hd
    have bB := Nat.le_of_dvd n1 b3
    obtain ⟨l', w⟩ := ep_go h hs hB p2 p6 hE a1 a2 a3 a4 n n 1 (Nat.le_refl n) n1 nB (by decide)
    obtain ⟨x', y', e⟩ := eL_go h hs hB E1 hE a1 a2 a3 a4 S (lessP E p n n) (some (.int (p : Int))) l' (fun q hq => hS q (List.mem_cons_of_mem _ hq)) b1 (by omega) b2
    have w' : sWhile W_echo_1 W_echo_2 [some (.val (.wheel (m : Int) ws)), a1, a2, a3, a4, some (.val (.ints s)), some (.mats (ldr m ws L)), some (.int (n : Int)), some (.int (facT m s (itr (stp (m : Int) ws) n s) : Int)), some (.int (p : Int)), some (.int 1)] = _ := w
    refine ⟨x', y', for_cons (t1 := [some (.val (.wheel (m : Int) ws)), a1, a2, a3, a4, some (.val (.ints s)), some (.mats (ldr m ws L)), some (.int (n : Int)), some (.int (facT m s (itr (stp (m : Int) ws) n s) : Int)), some (.int (p : Int)), y]) rfl ?_ e⟩
    unfold W_echo_3
    walk_at "st"
end
theorem echo_ok {m : Nat} {ws b : List Int} (h : Wh (m : Int) ws) (hb : Ok (m : Int) ws.length b) {T l : Nat} (c : Crs (fun k => itr (stp m ws) k b) T l) : ∃ E : Nat, 1 ≤ E ∧ E ∣ l ∧ (∀ d, Ech m ws (itr (stp (m : Int) ws) T b) d ↔ E ∣ d) ∧
    F_echo [.val (.wheel (m : Int) ws), .val (.ints b)] = some (.nd .tup [.int (E : Int), .int (facT m (itr (stp (m : Int) ws) T b) (itr (stp (m : Int) ws) E (itr (stp (m : Int) ws) T b)) : Int)]) := by
  have h0 : 0 < (m : Int) := by have := h.lo; omega
  have m1 : 1 ≤ m := by omega
  obtain ⟨T', l', ps, c', T4, l8, p64, g, hmem, k⟩ := course_of_ok h hb
  obtain ⟨rfl, rfl⟩ := c.one c'
  have hs := ok_it h hb T
  generalize hS : itr (stp (m : Int) ws) T b = s at hs k
  have sl : 1 ≤ s.length := by rw [hs.len]; exact h.len
  have hper : itr (stp (m : Int) ws) l s = s := by
    have := c.rt (Nat.le_refl T) (Nat.dvd_refl l)
    rw [← hS, ← itr_add, Nat.add_comm]
    exact this
  have hl : Ech m ws s l := by
    refine facT_pos.mp ?_
    rw [hper, facT_one m1 hs]
    decide
  obtain ⟨E, -, ⟨E1, E2⟩, E4⟩ := least (P := fun d => 1 ≤ d ∧ Ech m ws s d) (n := l) ⟨c.pos, hl⟩
  have hE := ech_iff m1 sl hs h.len E1 E2 fun j j1 j2 e => E4 j j2 ⟨j1, e⟩
  have El : E ∣ l := (hE l).mp hl
  obtain ⟨L, L1, L2, L3, L4⟩ := ladder_of_ok (B := 8000) h0 h.hi h.most (sq_tbl h0 h.len h.rng) l8 (by decide)
  have pr : ∀ q ∈ ps, 2 ≤ q ∧ q < 1000000 := fun q hq => by
    have a := (hmem q).mp hq
    have b := g.2.1 (q : Int) (List.mem_map.mpr ⟨q, hq, rfl⟩)
    exact ⟨a.1.1, by omega⟩
  obtain ⟨x', y', e⟩ := eL_go h hs L2 E1 hE (some (.val (.ints b))) (some (.int (T : Int))) (some (.int (l : Int))) (some (.val (.ints (zs ps)))) ps l none none pr c.pos (Nat.le_refl l) El
  rw [lessL_is E1 (fun p hp => (pr p hp).1) c.pos El fun p p1 p2 => (hmem p).mpr ⟨p1, p2⟩, hper, facT_one m1 hs] at e
  have e' := f_go (w := wSeq (bVar 4)) (t := [some (.val (.wheel (m : Int) ws)), some (.val (.ints b)), some (.int (T : Int)), some (.int (l : Int)), some (.val (.ints (zs ps))), some (.val (.ints s)), some (.mats (ldr m ws L)), some (.int (l : Int)), some (.int 1), none, none]) (ds := ps.map fun (q : Nat) => D.int (q : Int)) (by
    show some ((zs ps).map D.int) = _
    rw [List.map_map]
    rfl) e
  have e1 := check_wheel_ok h
  have e2 := check_beginning_ok h hb
  have tb := table_of_ok h
  have tm := toD_mats (ldr m ws L)
  refine ⟨E, E1, El, hE, ?_⟩
  unfold F_echo B_echo
  walk_at "fn"
  walk_at "st"
section
variable {m : Nat} {ws s b : List Int}
theorem sr_go (h : Wh (m : Int) ws) (hs : Ok (m : Int) ws.length s) {E : Nat} (E1 : 1 ≤ E) (hE : ∀ d, Ech m ws s d ↔ E ∣ d) {o4 : O} (h4 : o4.toD = .ints s) (a1 a2 a3 : Option O) : ∀ (f d : Nat), d + f = E → 1 ≤ d → sWhile W__law_small_right_1 W__law_small_right_2 [some (.val (.wheel (m : Int) ws)), a1, a2, a3, some o4, some (.ints (itr (stp (m : Int) ws) d s)), some (.int (d : Int)), some (.int (facT m s (itr (stp (m : Int) ws) d s) : Int))] = some (.nx [some (.val (.wheel (m : Int) ws)), a1, a2, a3, some o4, some (.ints (itr (stp (m : Int) ws) E s)), some (.int (E : Int)), some (.int (facT m s (itr (stp (m : Int) ws) E s) : Int))]) := by
  have m1 : 1 ≤ m := by have := h.lo; omega
  have m2 : m ≤ 1000 := by have := h.hi; omega
  have cnd : ∀ d : Nat, W__law_small_right_1 [some (.val (.wheel (m : Int) ws)), a1, a2, a3, some o4, some (.ints (itr (stp (m : Int) ws) d s)), some (.int (d : Int)), some (.int (facT m s (itr (stp (m : Int) ws) d s) : Int))] = some (decide (facT m s (itr (stp (m : Int) ws) d s) = 0)) := fun d => by
    have c1 : dCmp .Eq (.int (facT m s (itr (stp (m : Int) ws) d s) : Int)) (.int 0) = some (decide (facT m s (itr (stp (m : Int) ws) d s) = 0)) := eq_natc _ 0
    unfold W__law_small_right_1
    walk_at "ev"
  intro f
  induction f with
  | zero =>
    intro d hd d1
    obtain rfl : d = E := by omega
    have : 0 < facT m s (itr (stp (m : Int) ws) d s) := facT_pos.mpr ((hE d).mpr (Nat.dvd_refl d))
    exact while_end (by rw [cnd, decide_eq_false (by omega)])
  | succ f ih =>
    intro d hd d1
    have z : facT m s (itr (stp (m : Int) ws) d s) = 0 := by
      rcases Nat.eq_zero_or_pos (facT m s (itr (stp (m : Int) ws) d s)) with w | w
      · exact w
      · have := Nat.le_of_dvd d1 ((hE d).mp (facT_pos.mp w))
        omega
    have s1 := law_step_ok h (ok_it h hs d)
    rw [← itr_succ (stp (m : Int) ws) d s] at s1
    have a2' : dBin .Add (.int (d : Int)) (.int 1) = some (.int ((d + 1 : Nat) : Int)) := add_nat d 1
    have ft := law_factor_ok m1 m2 hs (ok_it h hs (d + 1)) h.len h.most
    refine while_turn (by rw [cnd, decide_eq_true z]) ?_ (ih (d + 1) (by omega) (by omega))
    unfold W__law_small_right_2
    walk_at "st"
theorem small_right_ok (h : Wh (m : Int) ws) (hr : m ^ ws.length ≤ 300) (hb : Ok (m : Int) ws.length b) : F__law_small_right [.val (.wheel (m : Int) ws), .val (.ints b)] = some (.bl true) := by
  have m1 : 1 ≤ m := by have := h.lo; omega
  have m2 : m ≤ 1000 := by have := h.hi; omega
  obtain ⟨T, l, ps, c, T4, -, -, -, -, -⟩ := course_ok h hb
  obtain ⟨E, E1, El, hE, ek⟩ := echo_ok h hb c
  have rm := crs_room h hb c
  have lc := law_course_ok h hb c (by show _ < 100000; omega)
  obtain ⟨o, k1, k2⟩ := law_walk_ok h hb T (by show _ ≤ 100000; omega)
  have hs := ok_it h hb T
  generalize itr (stp (m : Int) ws) T b = s at hs hE ek k2
  have s1 := law_step_ok h hs
  have ft := law_factor_ok m1 m2 hs (ok_it h hs 1) h.len h.most
  have ft' : F__law_factor [.int (m : Int), .val (.ints s), .val (.ints (stp (m : Int) ws s))] = some (.int (facT m s (stp (m : Int) ws s) : Int)) := ft
  have w := sr_go h hs E1 hE k2 (some (.val (.ints b))) (some (.int (T : Int))) (some (.int (l : Int))) (E - 1) 1 (by omega) (Nat.le_refl 1)
  have w' : sWhile W__law_small_right_1 W__law_small_right_2 [some (.val (.wheel (m : Int) ws)), some (.val (.ints b)), some (.int (T : Int)), some (.int (l : Int)), some o, some (.ints (stp (m : Int) ws s)), some (.int 1), some (.int (facT m s (stp (m : Int) ws s) : Int))] = _ := w
  have q := dEq_t2 (E : Int) (facT m s (itr (stp (m : Int) ws) E s) : Int)
  unfold F__law_small_right B__law_small_right
  walk_at "fn"
  walk_at "st"
end
end Den

/-! k10 -/
namespace Den
open PySem L2 Mt
local macro_rules | `(tactic| walk_at "den") => `(tactic| (all_goals (try simp only [fnOf, sSeq, sFz, sAsg, sPar, sUnp, sDrop, sRet, sRetN, sIf, sNext, sNever, sPut, sApp, sMod, modAt, mApp, mPut, fzAt, fzAll, vAll, setAll, gN, gT, gSet, wipeT, vOf, bFz, vC, v1, v2, vBin, vNeg, vCmp, vChain, vAnd, vOr, vNot, bT, bAnd, bOr, bNot, vIf, bIx, dIx, O.isDict, vSl, opI, vNd, vCall, aAll, aPl, aNp, aMv, wSeq, wRange1, wRange2, wRange3, wZip, wEnum, bVar, bYes, dBin, dSub, dMod, dFdiv, dPow, dShl, dShr, i2, dNeg, dCmp, c2, dIs, dInt, dAbs, dMax, dMin, O.child, O.fz, O.toD, O.toDs, O.isVal, O.int?, O.bl?, O.v?, O.allFlat, O.allFlats, ob, om, Option.map_some, Option.bind_some, Option.map_none, Option.bind_none, Option.join_some, Option.join_none, List.length_cons, List.length_nil, List.map_cons, List.map_nil, List.replicate, List.cons_append, List.nil_append, List.getElem?_cons_zero, List.getElem?_cons_succ, List.set_cons_zero, List.set_cons_succ, if_true, if_false, Bool.false_eq_true, reduceIte, Nat.reduceAdd, Nat.reduceSub, Nat.reduceEqDiff, Bool.not_true, Bool.not_false, Bool.and_true, Bool.true_and, Bool.and_false, Bool.false_and, List.all_cons, List.all_nil, true_or, or_true, true_and, and_true, O.ty, dIsB, dAll, dAny, dSum, dLen, dList, dTuple, O.top, O.vals?, dSl, dAdd, dMul, ints?_map, ints?_map', bls?_map, bls?_map', toDs_map', vals_map', toDs_ints, vals_map, toDs_vals, List.length_map, dEq_int, dEq_ints, dEq_bl, cut_map, decide_true, decide_false, decide_eq_true_eq, Bool.not_eq_true', kit_ii, kit_ib, kit_ll, kit_tt, allFlats_ints, vals_mapI, Int.cast_ofNat_Int, Int.reduceAdd, Int.reduceSub, Int.reduceMul, Int.reduceNeg, Int.reduceLT, Int.reduceLE, Int.reduceEq, Int.reduceMod, Int.reduceDiv, Int.reducePow, Int.reduceToNat, Nat.reduceMul, Nat.reducePow, Nat.reduceLeDiff, Nat.reduceLT, decide_not, Int.ofNat_one, Int.ofNat_zero, ne_eq, not_true, not_false_iff, Int.reduceNe])))
local macro_rules | `(tactic| walk_at "sd") => `(tactic| first | with_reducible assumption | omega | decide)
local macro_rules | `(tactic| walk_at "toD") => `(tactic| first | with_reducible exact toD_val _ | with_reducible exact toD_ints _ | with_reducible exact toD_mat _ | with_reducible exact toD_wo _ _ | ((with_reducible apply toD_n); walk_at "toDs") | walk_at "leaf")
local macro_rules | `(tactic| walk_at "toDs") => `(tactic| first | with_reducible exact toDs_0 | with_reducible exact toDs_ints _ | with_reducible exact toDs_vals _ | with_reducible exact toDs_map' _ _ | ((with_reducible apply toDs_1); walk_at "toD"; walk_at "toDs"))
local macro_rules | `(tactic| walk_at "leaf") => `(tactic| with_reducible assumption)
local macro_rules | `(tactic| walk_at "op") => `(tactic| first | walk_at "leaf" | with_reducible exact add_e _ _ | with_reducible exact sub_e _ _ | exact mod_e (by walk_at "sd") | exact div_e (by walk_at "sd") (by walk_at "sd") | exact mul_e (by walk_at "sd") | exact mulL_ints _ _ (by walk_at "sd") (by walk_at "sd") | exact cat_ints (xs := _) (ys := _) (by walk_at "top") (by walk_at "top") (by walk_at "sd") | exact pow_e (by walk_at "sd") (by walk_at "sd") | walk_at "leaf")
local macro_rules | `(tactic| walk_at "top") => `(tactic| first | exact top_ints _ | exact top_vints _ | exact rfl)
local macro_rules | `(tactic| walk_at "cmp") => `(tactic| first | with_reducible assumption | with_reducible exact lt_e _ _ | with_reducible exact le_e _ _ | with_reducible exact gt_e _ _ | with_reducible exact ge_e _ _ | with_reducible exact eq_e _ _ | with_reducible exact ne_e _ _ | with_reducible exact is_bl _ _ | with_reducible exact nis_bl _ _ | ((with_reducible apply co_eq); walk_at "toD"; walk_at "toD"; walk_at "deq") | ((with_reducible apply co_ne); walk_at "toD"; walk_at "toD"; walk_at "deq") | walk_at "leaf")
local macro_rules | `(tactic| walk_at "deq") => `(tactic| first | walk_at "leaf" | exact dEq_ints _ _ | with_reducible exact dEq_wheel _ _ _ _ | exact dEq_bl _ _ | exact dEq_int _ _ | walk_at "leaf")
local macro_rules | `(tactic| walk_at "as") => `(tactic| first | with_reducible exact as_0 | ((with_reducible apply as_1); (first | ((with_reducible apply r_pl); walk_at "ev"; walk_at "toD"; exact rfl) | ((with_reducible apply r_np); walk_at "ev"; walk_at "toD") | ((with_reducible apply r_mv); walk_at "ev")); walk_at "as"))
local macro_rules | `(tactic| walk_at "all") => `(tactic| first | with_reducible exact all_0 | ((with_reducible apply all_1); walk_at "ev"; walk_at "all"))
local macro_rules | `(tactic| walk_at "ev") => `(tactic| first
  | with_reducible assumption
  | ((with_reducible apply r_var); walk_at "at")
  | with_reducible exact r_c
  | ((with_reducible apply r_fz); walk_at "ev"; walk_at "toD")
  | ((with_reducible apply r_of); walk_at "ev")
  | ((with_reducible apply e_bin); walk_at "ev"; walk_at "ev"; walk_at "op")
  | ((with_reducible apply r_cmp); walk_at "ev"; walk_at "ev"; walk_at "cmp")
  | ((with_reducible apply e_ix); walk_at "ev"; walk_at "ev"; walk_at "child")
  | ((with_reducible apply r_call); walk_at "as"; walk_at "leaf"; (first | exact .inl rfl | exact .inr ⟨rfl, rfl⟩ | exact .inr ⟨rfl, allFlat_ints _⟩ | exact .inr ⟨rfl, by walk_at "leaf"⟩))
  | ((with_reducible apply r_meth); walk_at "ev"; walk_at "leaf"; walk_at "leaf"; walk_at "leaf"; exact rfl; walk_at "ev")
  | ((with_reducible apply r_fld); walk_at "ev"; walk_at "leaf")
  | ((with_reducible apply r_T); walk_at "ev")
  | ((with_reducible apply r_bnot); walk_at "ev")
  | ((with_reducible apply r_band0); (with_reducible apply r_T); (with_reducible apply r_var); walk_at "at")
  | ((with_reducible apply r_bor1); (with_reducible apply r_T); (with_reducible apply r_var); walk_at "at")
  | ((with_reducible apply r_bor); walk_at "ev"; (intro hk; walk_at "ev"))
  | ((with_reducible apply r_band); walk_at "ev"; (intro hk; walk_at "ev"))
  | ((with_reducible apply r_or); walk_at "ev"; (intro hk; walk_at "ev"))
  | ((with_reducible apply r_and); walk_at "ev"; (intro hk; walk_at "ev"))
  | ((with_reducible apply r_not); walk_at "ev")
  | ((with_reducible apply r_neg); walk_at "ev")
  | ((with_reducible apply r_chain); walk_at "ev"; walk_at "ev"; walk_at "cmp"; (intro hk; walk_at "ev"); (intro hk; walk_at "cmp"))
  | ((with_reducible apply r_sl); walk_at "ev"; (first | with_reducible exact r_opn | (apply r_ops; walk_at "ev")); (first | with_reducible exact r_opn | (apply r_ops; walk_at "ev")); walk_at "leaf")
  | ((with_reducible apply e_nd); walk_at "all"; exact Nat.le_of_ble_eq_true rfl)
  | ((with_reducible apply e_v1); walk_at "ev"; walk_at "un")
  | ((with_reducible apply e_v2); walk_at "ev"; walk_at "ev"; walk_at "leaf")
  | walk_at "leaf")
local macro_rules | `(tactic| walk_at "un") => `(tactic| first | walk_at "leaf" | exact len_ints _ | exact list_ints _ | exact dRev_ints _ | exact dInt_bl _ | walk_at "leaf")
local macro_rules | `(tactic| walk_at "child") => `(tactic| first | walk_at "leaf" | with_reducible exact wheel_m _ _ | with_reducible exact wheel_w _ _ | exact child_ints (j := 0) (by walk_at "sd"))
local macro_rules | `(tactic| walk_at "set") => `(tactic| first | with_reducible exact l_set0 | ((with_reducible apply l_setS); walk_at "set"))
local macro_rules | `(tactic| walk_at "at") => `(tactic| first | with_reducible exact l_at0 | ((with_reducible apply l_atS); walk_at "at"))
local macro_rules | `(tactic| walk_at "fz") => `(tactic| first | with_reducible exact fz_0 | ((with_reducible apply fz_1); walk_at "at"; walk_at "toD"; walk_at "set"; walk_at "fz") | ((with_reducible apply fz_n); walk_at "at"; walk_at "fz"))
local macro_rules | `(tactic| walk_at "fa") => `(tactic| first | with_reducible exact fa_0 | ((with_reducible apply fa_n); walk_at "fa") | ((with_reducible apply fa_s); walk_at "toD"; walk_at "fa") | ((with_reducible apply fa_x); walk_at "fa"))
local macro_rules | `(tactic| walk_at "gt") => `(tactic| first | with_reducible exact gt_0 | ((with_reducible apply gt_1); walk_at "set"; walk_at "gt"))
local macro_rules | `(tactic| walk_at "sa") => `(tactic| first | with_reducible exact sa_0 | ((with_reducible apply sa_1); walk_at "set"; walk_at "sa"))
local macro_rules | `(tactic| walk_at "kt") => `(tactic| first | with_reducible assumption | exact rfl | (focus ((simp only [Bool.or_eq_true, Bool.and_eq_true, Bool.or_eq_false_iff, Bool.and_eq_false_iff, Bool.not_eq_true', Bool.not_eq_false', decide_eq_true_eq, decide_eq_false_iff_not, Bool.not_true, Bool.not_false, Bool.true_or, Bool.or_true, Bool.false_or, Bool.or_false, Bool.true_and, Bool.and_true, Bool.false_and, Bool.and_false, Bool.false_eq_true, Bool.true_eq_false, not_false_iff, true_and, and_true, or_true, true_or, false_or, or_false]) <;> omega)) | (focus (simp only [*, Bool.not_true, Bool.not_false, Bool.true_or, Bool.or_true, Bool.false_or, Bool.or_false, Bool.true_and, Bool.and_true, Bool.false_and, Bool.and_false, decide_true, decide_false]; done)) | walk_at "leaf")
local macro_rules | `(tactic| walk_at "ini") => `(tactic| ((simp only [List.map_cons, List.map_nil, List.cons_append, List.nil_append, List.replicate, Nat.reduceSub]); try exact rfl))
local macro_rules | `(tactic| walk_at "fn") => `(tactic| ((with_reducible apply fn_go); exact rfl; walk_at "ini"))
local macro_rules | `(tactic| walk_at "fnn") => `(tactic| ((with_reducible apply fn_gn); exact rfl; walk_at "ini"))
local macro_rules | `(tactic| walk_at "st") => `(tactic| first
  | with_reducible exact nx_rfl
  | ((with_reducible apply seq_nx); walk_at "st")
  | ((with_reducible apply seq_assoc); walk_at "st")
  | ((with_reducible apply seq_if); walk_at "ev"; first | (refine .inl ⟨?_, ?_⟩; walk_at "kt"; walk_at "st") | (refine .inr ⟨?_, ?_⟩; walk_at "kt"; walk_at "st"))
  | ((with_reducible apply seq_fz); walk_at "fz"; walk_at "st")
  | ((with_reducible apply seq_rt); first | ((with_reducible apply s_ret); walk_at "fa"; walk_at "ev") | ((with_reducible apply s_retN); walk_at "at"))
  | ((with_reducible apply seq_go); walk_at "s1"; walk_at "st"))
local macro_rules | `(tactic| walk_at "s1") => `(tactic| first
  | ((with_reducible apply s_asg); walk_at "ev"; walk_at "set")
  | ((with_reducible apply s_drop); walk_at "ev")
  | ((with_reducible apply s_par); walk_at "all"; walk_at "sa")
  | ((with_reducible apply s_unp); walk_at "ev"; (with_reducible apply gt_t); walk_at "gt")
  | ((with_reducible apply s_app); walk_at "ev"; walk_at "toD"; walk_at "at"; walk_at "sd"; walk_at "set")
  | walk_at "leaf")
noncomputable def W_law_1 : SE := (sSeq (sIf (bT (vCmp .Eq (bFz (vBin .Mod (bIx (bVar 3) (bFz (vC (.int 0)))) (bVar 8))) (bFz (vC (.int 0))))) (sSeq (sAsg 7 (vCall F__law_far [(aPl (bVar 1)), (aPl (bVar 6)), (aNp (vBin .FloorDiv (bIx (bVar 3) (bFz (vC (.int 0)))) (bVar 8)))])) (sSeq (sIf (bT (vCmp .Gt (bFz (vCall F__law_factor [(aPl (bIx (bVar 1) (bFz (vC (.int 0))))), (aPl (bVar 6)), (aPl (bVar 7))])) (bFz (vC (.int 0))))) (sSeq (sRet (vC (.bl false))) sNext) sNext) sNext)) sNext) sNext)
noncomputable def B_law : SE := (sSeq (sUnp [1, 2] (bFz (vCall F__law_small [(aPl (bVar 0)), (aNp (vC (.int 0)))]))) (sSeq (sIf (bAnd (bT (vCmp .LtE (bIx (bVar 1) (bFz (vC (.int 0)))) (bFz (vC (.int 17))))) (bNot (bT (bFz (vCall F__law_small_right [(aPl (bVar 1)), (aPl (bVar 2))]))))) (sSeq (sRet (vC (.bl false))) sNext) sNext) (sSeq (sUnp [1, 2] (bFz (vCall F__law_wheel [(aPl (bVar 0)), (aNp (vC (.int 1))), (aNp (vIf (bT (vCmp .Eq (bFz (vBin .Mod (bFz (vCall F__law_value [(aNp (vCall F__law_cell_at [(aPl (bVar 0)), (aNp (vC (.int 0)))])), (aNp (vC (.int 9)))])) (bFz (vC (.int 8))))) (bFz (vC (.int 0))))) (vC (.int 4)) (vC (.int 3))))]))) (sSeq (sPar [3, 4] [(vCall F_echo [(aPl (bVar 1)), (aPl (bVar 2))]), (vCall F_course [(aPl (bVar 1)), (aPl (bVar 2))])]) (sSeq (sFz [3] (sIf (bOr (bNot (bT (bFz (v1 (dIsB "tuple") (bVar 3))))) (bOr (bT (vCmp .NotEq (bFz (v1 dLen (bVar 3))) (bFz (vC (.int 2))))) (bNot (bT (bFz (v1 dAll (bFz (vLc (wSeq (bVar 3)) [5] (gN 5) bYes (vCall F__law_whole [(aPl (bVar 5))]))))))))) (sSeq (sRet (vC (.bl false))) sNext) sNext)) (sSeq (sAsg 6 (vCall F__law_far [(aPl (bVar 1)), (aPl (bVar 2)), (aPl (bFldC ["Course"] "tail" (bVar 4)))])) (sSeq (sAsg 7 (vCall F__law_far [(aPl (bVar 1)), (aPl (bVar 6)), (aPl (bIx (bVar 3) (bFz (vC (.int 0)))))])) (sSeq (sIf (bOr (bT (vCmp .NotEq (bFz (vBin .Mod (bFldC ["Course"] "length" (bVar 4)) (bIx (bVar 3) (bFz (vC (.int 0)))))) (bFz (vC (.int 0))))) (bT (vCmp .NotEq (bFz (vCall F__law_factor [(aPl (bIx (bVar 1) (bFz (vC (.int 0))))), (aPl (bVar 6)), (aPl (bVar 7))])) (bIx (bVar 3) (bFz (vC (.int 1))))))) (sSeq (sRet (vC (.bl false))) sNext) sNext) (sSeq (sFz [4] (sFor (wSeq (bFldC ["Course"] "primes" (bVar 4))) (gN 8) W_law_1)) (sSeq (sIf (bOr (bT (vCmp .NotEq (bFz (vCall F_echo [(aNp (vNd .tup [(vC (.int 10)), (vNd .lst [(vC (.int 1)), (vC (.int 1))])])), (aNp (vNd .lst [(vC (.int 0)), (vC (.int 1))]))])) (bFz (vNd .tup [(vC (.int 15)), (vC (.int 7))])))) (bT (vCmp .NotEq (bFz (vCall F_echo [(aNp (vNd .tup [(vC (.int 6)), (vNd .lst [(vC (.int 1)), (vC (.int 1))])])), (aNp (vNd .lst [(vC (.int 0)), (vC (.int 0))]))])) (bFz (vNd .tup [(vC (.int 1)), (vC (.int 1))]))))) (sSeq (sRet (vC (.bl false))) sNext) sNext) (sSeq (sRet (vOf (vAnd (bFz (vCall F__law_small_right [(aNp (vNd .tup [(vC (.int 7)), (vNd .lst [(vC (.int 1)), (vC (.int 1))])])), (aNp (vNd .lst [(vC (.int 0)), (vC (.int 1))]))])) (bFz (vCmp .Eq (bFz (vCall F_echo [(aNp (vNd .tup [(vC (.int 1)), (vNd .lst [(vC (.int 0)), (vC (.int 0))])])), (aNp (vNd .lst [(vC (.int 0)), (vC (.int 0))]))])) (bFz (vNd .tup [(vC (.int 1)), (vC (.int 1))]))))))) sNext)))))))))))
local macro_rules | `(tactic| walk_at "leaf") => `(tactic| first | with_reducible exact f_tail' _ _ _ | with_reducible exact f_length' _ _ _ | with_reducible exact f_primes' _ _ _ | with_reducible exact f_tail _ _ _ | with_reducible exact f_length _ _ _ | with_reducible exact f_primes _ _ _ | with_reducible exact allFlat_crs _ _ _ | with_reducible exact toD_crs _ _ _ | with_reducible exact i_crs _ _ _ | with_reducible exact i_crs' _ _ _ | with_reducible exact ins_crs _ _ _ | with_reducible exact ins_crs' _ _ _ | with_reducible exact no_crs | with_reducible exact lk_crs)
theorem p_2 : PrimeN 2 := primeN_of (by decide) (by decide +kernel)
theorem p_3 : PrimeN 3 := primeN_of (by decide) (by decide +kernel)
theorem p_5 : PrimeN 5 := primeN_of (by decide) (by decide +kernel)
theorem mem_60 (p : Nat) : p ∈ [2, 3, 5] ↔ PrimeN p ∧ p ∣ 60 := by
  constructor
  · intro h
    simp only [List.mem_cons, List.mem_nil_iff, or_false] at h
    rcases h with rfl | rfl | rfl
    · exact ⟨p_2, by decide⟩
    · exact ⟨p_3, by decide⟩
    · exact ⟨p_5, by decide⟩
  · rintro ⟨a, d⟩
    rw [show 60 = 2 * (2 * (3 * 5)) from rfl] at d
    rcases prime_dvd_nat a d with z | z
    · rw [prime_eq a p_2 z]; decide
    rcases prime_dvd_nat a z with z | z
    · rw [prime_eq a p_2 z]; decide
    rcases prime_dvd_nat a z with z | z
    · rw [prime_eq a p_3 z]; decide
    · rw [prime_eq a p_5 z]; decide
theorem crs_10 : Crs (fun k => itr (stp ((10 : Nat) : Int) [1, 1]) k [0, 1]) 0 60 := by
  refine (crs_shows (det_itr _ _) (ps := [2, 3, 5]) (by decide) mem_60).mpr ⟨by decide +kernel, ?_, .inl rfl⟩
  intro p hp
  simp only [List.mem_cons, List.mem_nil_iff, or_false] at hp
  rcases hp with rfl | rfl | rfl <;> decide +kernel
theorem mem_1 (p : Nat) : p ∈ ([] : List Nat) ↔ PrimeN p ∧ p ∣ 1 := by
  constructor
  · intro h
    cases h
  · rintro ⟨a, d⟩
    have := Nat.le_of_dvd (by decide) d
    have := a.1
    omega
theorem crs_00 (m : Nat) (ws : List Int) (e : stp (m : Int) ws [0, 0] = [0, 0]) : Crs (fun k => itr (stp (m : Int) ws) k [0, 0]) 0 1 :=
  (crs_shows (det_itr _ _) (ps := []) (by decide) mem_1).mpr ⟨e, (fun p hp => by cases hp), .inl rfl⟩
theorem echo_10 : F_echo [.val (.nd .tup [.int 10, .nd .lst [.int 1, .int 1]]), .val (.nd .lst [.int 0, .int 1])] = some (.nd .tup [.int 15, .int 7]) := by
  obtain ⟨E, E1, El, hE, ek⟩ := echo_ok (m := 10) (ws := [1, 1]) (b := [0, 1]) ⟨by decide, by decide, by decide, by decide, by decide⟩ ⟨by decide, by decide⟩ crs_10
  have d15 : E ∣ 15 := (hE 15).mp (facT_pos.mp (by decide +kernel))
  have d5 : ¬ E ∣ 5 := fun z => absurd (facT_pos.mpr ((hE 5).mpr z)) (by decide +kernel)
  have d3 : ¬ E ∣ 3 := fun z => absurd (facT_pos.mpr ((hE 3).mpr z)) (by decide +kernel)
  have hl := Nat.le_of_dvd (by decide) d15
  have : ∀ E : Nat, E ≤ 15 → E ∣ 15 → ¬ E ∣ 5 → ¬ E ∣ 3 → E = 15 := by decide +kernel
  obtain rfl := this E hl d15 d5 d3
  have ff : facT 10 (itr (stp ((10 : Nat) : Int) [1, 1]) 0 [0, 1]) (itr (stp ((10 : Nat) : Int) [1, 1]) 15 (itr (stp ((10 : Nat) : Int) [1, 1]) 0 [0, 1])) = 7 := by decide +kernel
  rw [ff] at ek
  exact ek
theorem echo_00 {m : Nat} {ws : List Int} (h : Wh (m : Int) ws) (hl : ws.length = 2) (e : stp (m : Int) ws [0, 0] = [0, 0]) : F_echo [.val (.wheel (m : Int) ws), .val (.ints [0, 0])] = some (.nd .tup [.int 1, .int 1]) := by
  have hb : Ok (m : Int) ws.length [0, 0] := ⟨by rw [hl]; rfl, fun x hx => by
    have := h.lo
    simp only [List.mem_cons, List.mem_nil_iff, or_false, or_self] at hx
    omega⟩
  obtain ⟨E, E1, El, hE, ek⟩ := echo_ok h hb (crs_00 m ws e)
  obtain rfl : E = 1 := Nat.dvd_one.mp El
  have ff : facT m (itr (stp (m : Int) ws) 0 [0, 0]) (itr (stp (m : Int) ws) 1 (itr (stp (m : Int) ws) 0 [0, 0])) = 1 := by
    show facT m [0, 0] (stp (m : Int) ws [0, 0]) = 1
    rw [e]
    exact facT_one (by have := h.lo; omega) hb
  rw [ff] at ek
  exact ek
section
variable {m : Nat} {ws s : List Int}
theorem pr_turn (h : Wh (m : Int) ws) (hs : Ok (m : Int) ws.length s) {E p : Nat} (E1 : 1 ≤ E) (hE : ∀ d, Ech m ws s d ↔ E ∣ d) (p2 : 2 ≤ p) (p6 : p < 1000000) (F : Int) (a0 a2 a4 a5 x7 : Option O) : ∃ y7, W_law_1 [a0, some (.val (.wheel (m : Int) ws)), a2, some (.val (.nd .tup [.int (E : Int), .int F])), a4, a5, some (.ints s), x7, some (.int (p : Int))] = some (.nx [a0, some (.val (.wheel (m : Int) ws)), a2, some (.val (.nd .tup [.int (E : Int), .int F])), a4, a5, some (.ints s), y7, some (.int (p : Int))]) := by
  have m1 : 1 ≤ m := by have := h.lo; omega
  have m2 : m ≤ 1000 := by have := h.hi; omega
  have ch : (O.val (.nd .tup [.int (E : Int), .int F])).child 0 = some (.int (E : Int)) := by kernel_rfl
  have q1 := mod_nat (a := E) (b := p) (by omega)
  have c1 : dCmp .Eq (.int ((E % p : Nat) : Int)) (.int 0) = some (decide (E % p = 0)) := eq_natc _ 0
  by_cases z : E % p = 0
  · rw [decide_eq_true z] at c1
    have d1 := divN (a := E) (b := p) (by omega) (le8 (by omega))
    have fr := far_ok h hs (E / p)
    have ft := law_factor_ok m1 m2 hs (ok_it h hs (E / p)) h.len h.most
    have q0 : 1 ≤ E / p := Nat.div_pos (Nat.le_of_dvd E1 (Nat.dvd_of_mod_eq_zero z)) (by omega)
    have lt : E / p < E := Nat.div_lt_self (by omega) (by omega)
    have f0 : facT m s (itr (stp (m : Int) ws) (E / p) s) = 0 := by
      rcases Nat.eq_zero_or_pos (facT m s (itr (stp (m : Int) ws) (E / p) s)) with w | w
      · exact w
      · have := Nat.le_of_dvd q0 ((hE _).mp (facT_pos.mp w))
        omega
    rw [f0] at ft
    have c2 : dCmp .Gt (.int ((0 : Nat) : Int)) (.int 0) = some false := by rw [gt_e]; rfl
    refine ⟨some (.ints (itr (stp (m : Int) ws) (E / p) s)), ?_⟩
    unfold W_law_1
    walk_at "st"
  · rw [decide_eq_false z] at c1
    refine ⟨x7, ?_⟩
    unfold W_law_1
    walk_at "st"
theorem prs_go (h : Wh (m : Int) ws) (hs : Ok (m : Int) ws.length s) {E : Nat} (E1 : 1 ≤ E) (hE : ∀ d, Ech m ws s d ↔ E ∣ d) (F : Int) (a0 a2 a4 a5 : Option O) : ∀ (S : List Nat) (x7 x8 : Option O), (∀ q ∈ S, 2 ≤ q ∧ q < 1000000) → ∃ y7 y8, forIn' (gN 8) W_law_1 (S.map fun (q : Nat) => D.int (q : Int)) [a0, some (.val (.wheel (m : Int) ws)), a2, some (.val (.nd .tup [.int (E : Int), .int F])), a4, a5, some (.ints s), x7, x8] = some (.nx [a0, some (.val (.wheel (m : Int) ws)), a2, some (.val (.nd .tup [.int (E : Int), .int F])), a4, a5, some (.ints s), y7, y8])
  | [], x7, x8, _ => ⟨x7, x8, rfl⟩
  | p :: S, x7, x8, hS => by
    obtain ⟨p2, p6⟩ := hS p List.mem_cons_self
    obtain ⟨y7, t⟩ := pr_turn h hs E1 hE p2 p6 F a0 a2 a4 a5 x7
    obtain ⟨z7, z8, e⟩ := prs_go h hs E1 hE F a0 a2 a4 a5 S y7 (some (.int (p : Int))) fun q hq => hS q (List.mem_cons_of_mem _ hq)
    exact ⟨z7, z8, for_cons rfl t e⟩
end
theorem law_k10 (ns : List Int) (hn : ns.length ≤ 63) : B_law (some (O.val (D.ints ns)) :: List.replicate 8 none) = some (.rt (.bl true)) := by
  obtain ⟨m0, ws0, b0, h0, hb0, hr0, w0⟩ := law_small_ok ns 0
  have w0' : F__law_small [.val (.ints ns), .int 0] = some (.nd .tup [.nd .tup [.int (m0 : Int), .val (.ints ws0)], .val (.ints b0)]) := w0
  have sr := small_right_ok h0 hr0 hb0
  have cl := le_e (m0 : Int) 17
  have v0 : F__law_cell_at [.val (.ints ns), .int 0] = some (.int (ns.getD 0 0)) := cell_at_ok ns 0
  have v1 : F__law_value [.int (ns.getD 0 0), .int 9] = some (.int (lv (ns.getD 0 0) 9 : Int)) := value_ok (ns.getD 0 0) (k := 9) (by decide)
  have v2 : dBin .Mod (.int (lv (ns.getD 0 0) 9 : Int)) (.int 8) = some (.int ((lv (ns.getD 0 0) 9 % 8 : Nat) : Int)) := mod_nat (b := 8) (by decide)
  have v3 : dCmp .Eq (.int ((lv (ns.getD 0 0) 9 % 8 : Nat) : Int)) (.int 0) = some (decide (lv (ns.getD 0 0) 9 % 8 = 0)) := eq_natc _ 0
  have hv : ∃ k : Nat, 1 ≤ k ∧ k ≤ 4 ∧ vIf (bT (vCmp .Eq (bFz (vBin .Mod (bFz (vCall F__law_value [(aNp (vCall F__law_cell_at [(aPl (bVar 0)), (aNp (vC (.int 0)))])), (aNp (vC (.int 9)))])) (bFz (vC (.int 8))))) (bFz (vC (.int 0))))) (vC (.int 4)) (vC (.int 3)) [some (O.val (D.ints ns)), some (.val (.wheel (m0 : Int) ws0)), some (.val (.ints b0)), none, none, none, none, none, none] = some (.int (k : Int)) := by
    have e : bT (vCmp .Eq (bFz (vBin .Mod (bFz (vCall F__law_value [(aNp (vCall F__law_cell_at [(aPl (bVar 0)), (aNp (vC (.int 0)))])), (aNp (vC (.int 9)))])) (bFz (vC (.int 8))))) (bFz (vC (.int 0)))) [some (O.val (D.ints ns)), some (.val (.wheel (m0 : Int) ws0)), some (.val (.ints b0)), none, none, none, none, none, none] = some (decide (lv (ns.getD 0 0) 9 % 8 = 0)) := by walk_at "ev"
    have := r_if (a := vC (.int 4)) (b := vC (.int 3)) (x := .int 4) (y := .int 3) e (fun _ => rfl) (fun _ => rfl)
    by_cases z : lv (ns.getD 0 0) 9 % 8 = 0
    · rw [decide_eq_true z] at this
      exact ⟨4, by decide, by decide, this⟩
    · rw [decide_eq_false z] at this
      exact ⟨3, by decide, by decide, this⟩
  obtain ⟨most, k1, k4, hv⟩ := hv
  obtain ⟨m', ws, b, hw', hb', l3, w1⟩ := law_wheel_ok ns 1 most k1 k4
  obtain ⟨m, rfl⟩ : ∃ m : Nat, m' = (m : Int) := ⟨m'.toNat, by have := hw'.lo; omega⟩
  have h := hw'
  have hb := hb'
  have m1 : 1 ≤ m := by have := h.lo; omega
  have m2 : m ≤ 1000 := by have := h.hi; omega
  have w1' : F__law_wheel [.val (.ints ns), .int 1, .int (most : Int)] = some (.nd .tup [.nd .tup [.int (m : Int), .val (.ints ws)], .val (.ints b)]) := w1
  obtain ⟨T, L, p, c, -, -, -, g, hmem, k⟩ := course_ok h hb
  obtain ⟨E, E1, El, hE, ek⟩ := echo_ok h hb c
  have fr := far_ok h hb T
  have hs := ok_it h hb T
  generalize itr (stp (m : Int) ws) T b = s at hs hE ek fr
  have fr2 := far_ok h hs E
  have ft := law_factor_ok m1 m2 hs (ok_it h hs E) h.len h.most
  generalize facT m s (itr (stp (m : Int) ws) E s) = F at ek ft
  have i1 : dIsB "tuple" (.val (.nd .tup [.int (E : Int), .int (F : Int)])) = some (.bl true) := by kernel_rfl
  have i2 : dLen (.val (.nd .tup [.int (E : Int), .int (F : Int)])) = some (.int 2) := by kernel_rfl
  have i3 : dCmp .NotEq (.int 2) (.int 2) = some false := by rw [ne_e]; rfl
  have e4 : bFz (vLc (wSeq (bVar 3)) [5] (gN 5) bYes (vCall F__law_whole [(aPl (bVar 5))])) [some (O.val (D.ints ns)), some (.val (.wheel (m : Int) ws)), some (.val (.ints b)), some (.val (.nd .tup [.int (E : Int), .int (F : Int)])), some (.crs (T : Int) (L : Int) (zs p)), none, none, none, none] = some (.val (.nd .lst ([(E : Int), (F : Int)].map fun _ => D.bl true))) := by
    refine lcz [(E : Int), (F : Int)] D.int _ rfl (Nat.le_of_ble_eq_true rfl) fun x hx => ⟨[some (O.val (D.ints ns)), some (.val (.wheel (m : Int) ws)), some (.val (.ints b)), some (.val (.nd .tup [.int (E : Int), .int (F : Int)])), some (.crs (T : Int) (L : Int) (zs p)), some (.int x), none, none, none], .bl true, rfl, ?_, rfl⟩
    have w := law_whole_int x
    walk_at "ev"
  have e5 := all_bl [(E : Int), (F : Int)] fun _ => true
  have e6 : ([(E : Int), (F : Int)].all fun _ => true) = true := rfl
  rw [e6] at e5
  have c0 : (O.val (.nd .tup [.int (E : Int), .int (F : Int)])).child 0 = some (.int (E : Int)) := by kernel_rfl
  have c1 : (O.val (.nd .tup [.int (E : Int), .int (F : Int)])).child 1 = some (.int (F : Int)) := by kernel_rfl
  have q1 := mod_nat (a := L) (b := E) (by omega)
  rw [Nat.mod_eq_zero_of_dvd El] at q1
  have q2 : dCmp .NotEq (.int ((0 : Nat) : Int)) (.int 0) = some false := by rw [ne_e]; rfl
  have q3 : dCmp .NotEq (.int (F : Int)) (.int (F : Int)) = some false := by rw [ne_e, decide_eq_true rfl]; rfl
  have pr : ∀ q ∈ p, 2 ≤ q ∧ q < 1000000 := fun q hq => by
    have a := (hmem q).mp hq
    have b := g.2.1 (q : Int) (List.mem_map.mpr ⟨q, hq, rfl⟩)
    exact ⟨a.1.1, by omega⟩
  obtain ⟨y7, y8, go⟩ := prs_go h hs E1 hE (F : Int) (some (O.val (D.ints ns))) (some (.val (.ints b))) (some (.val (.crs (T : Int) (L : Int) (zs p)))) none p (some (.ints (itr (stp (m : Int) ws) E s))) none pr
  have w8 : wSeq (bFldC ["Course"] "primes" (bVar 4)) [some (O.val (D.ints ns)), some (.val (.wheel (m : Int) ws)), some (.val (.ints b)), some (.val (.nd .tup [.int (E : Int), .int (F : Int)])), some (.val (.crs (T : Int) (L : Int) (zs p))), none, some (.ints s), some (.ints (itr (stp (m : Int) ws) E s)), none] = some (p.map fun (q : Nat) => D.int (q : Int)) := by
    have : bFldC ["Course"] "primes" (bVar 4) [some (O.val (D.ints ns)), some (.val (.wheel (m : Int) ws)), some (.val (.ints b)), some (.val (.nd .tup [.int (E : Int), .int (F : Int)])), some (.val (.crs (T : Int) (L : Int) (zs p))), none, some (.ints s), some (.ints (itr (stp (m : Int) ws) E s)), none] = some (.val (.ints (zs p))) := by walk_at "ev"
    unfold wSeq
    rw [this]
    show some ((zs p).map D.int) = _
    rw [List.map_map]
    rfl
  have go' := f_go w8 go
  have k10 := echo_10
  have k6 : F_echo [.val (.nd .tup [.int 6, .nd .lst [.int 1, .int 1]]), .val (.nd .lst [.int 0, .int 0])] = some (.nd .tup [.int 1, .int 1]) := echo_00 (m := 6) (ws := [1, 1]) ⟨by decide, by decide, by decide, by decide, by decide⟩ rfl (by decide +kernel)
  have k1' : F_echo [.val (.nd .tup [.int 1, .nd .lst [.int 0, .int 0]]), .val (.nd .lst [.int 0, .int 0])] = some (.nd .tup [.int 1, .int 1]) := echo_00 (m := 1) (ws := [0, 0]) ⟨by decide, by decide, by decide, by decide, by decide⟩ rfl (by decide +kernel)
  have s7 : F__law_small_right [.val (.nd .tup [.int 7, .nd .lst [.int 1, .int 1]]), .val (.nd .lst [.int 0, .int 1])] = some (.bl true) := small_right_ok (m := 7) (ws := [1, 1]) (b := [0, 1]) ⟨by decide, by decide, by decide, by decide, by decide⟩ (by decide) ⟨by decide, by decide⟩
  have d1 := dEq_t2 15 7
  have d2 := dEq_t2 1 1
  show B_law [some (O.val (D.ints ns)), none, none, none, none, none, none, none, none] = some (.rt (.bl (true && true)))
  unfold B_law
  walk_at "st"
end Den

/-! ### the row: its defs are worth that -/
namespace Rw
open PySem L2 Den
def topS (i : Nat) : Stmt := PySem.Challenge.pw_sumwheel_k10_whole_echo.main.body.getD i (.Pass ⟨0, 0, 0, 0⟩)
abbrev s__law_cell_at : Stmt := topS 34
def n__law_cell_at : List Str := ["_law_script", "_law_k"]
noncomputable def g__law_cell_at : Gam := ⟨[], [], [], [], []⟩
theorem c__law_cell_at : cSs (g__law_cell_at) 60 ⟨n__law_cell_at, defScope s__law_cell_at, fun _ => true⟩ (defBody s__law_cell_at) = some (B__law_cell_at) := by kernel_rfl
theorem z__law_cell_at : fnScB n__law_cell_at ["_law_script", "_law_k"] (defScope s__law_cell_at) = true := by decide +kernel
abbrev s__law_draw : Stmt := topS 35
def n__law_draw : List Str := ["_law_cell", "_law_k", "_law_many", "_law_primes"]
noncomputable def g__law_draw : Gam := ⟨[], [], [], [], []⟩
theorem c__law_draw : cSs (g__law_draw) 60 ⟨n__law_draw, defScope s__law_draw, fun _ => true⟩ (defBody s__law_draw) = some (B__law_draw) := by kernel_rfl
theorem z__law_draw : fnScB n__law_draw ["_law_cell", "_law_k", "_law_many"] (defScope s__law_draw) = true := by decide +kernel
abbrev s__law_value : Stmt := topS 36
def n__law_value : List Str := ["_law_cell", "_law_turn", "_law_rest", "_law_mixed_here"]
noncomputable def g__law_value : Gam := ⟨[("_law_draw", 3, [], F__law_draw)], [], [], [], []⟩
theorem c__law_value : cSs (g__law_value) 60 ⟨n__law_value, defScope s__law_value, fun _ => true⟩ (defBody s__law_value) = some (B__law_value) := by kernel_rfl
theorem z__law_value : fnScB n__law_value ["_law_cell", "_law_turn"] (defScope s__law_value) = true := by decide +kernel
abbrev s__law_small : Stmt := topS 40
def n__law_small : List Str := ["_law_script", "_law_by", "_law_cell", "_law_many", "_law_modulus_here", "_law_weights", "_law_at", "_law_beginning"]
noncomputable def g__law_small : Gam := ⟨[("_law_cell_at", 2, [], F__law_cell_at), ("_law_value", 2, [], F__law_value)], [], [], [], []⟩
theorem c__law_small : cSs (g__law_small) 60 ⟨n__law_small, defScope s__law_small, fun _ => true⟩ (defBody s__law_small) = some (B__law_small) := by kernel_rfl
theorem z__law_small : fnScB n__law_small ["_law_script", "_law_by"] (defScope s__law_small) = true := by decide +kernel
abbrev s__law_step : Stmt := topS 41
def n__law_step : List Str := ["_law_wheel_here", "_law_state", "_law_modulus_here", "_law_weights", "_law_total", "_law_weight", "_law_number"]
noncomputable def g__law_step : Gam := ⟨[], [], [], [], []⟩
theorem c__law_step : cSs (g__law_step) 60 ⟨n__law_step, defScope s__law_step, fun _ => true⟩ (defBody s__law_step) = some (B__law_step) := by kernel_rfl
theorem z__law_step : fnScB n__law_step ["_law_wheel_here", "_law_state"] (defScope s__law_step) = true := by decide +kernel
abbrev s__law_course : Stmt := topS 46
def n__law_course : List Str := ["_law_wheel_here", "_law_beginning", "_law_places", "_law_here", "_law_at"]
noncomputable def g__law_course : Gam := ⟨[("_law_step", 2, [], F__law_step)], [], [], [], []⟩
theorem c__law_course : cSs (g__law_course) 60 ⟨n__law_course, defScope s__law_course, fun _ => true⟩ (defBody s__law_course) = some (B__law_course) := by kernel_rfl
theorem z__law_course : fnScB n__law_course ["_law_wheel_here", "_law_beginning"] (defScope s__law_course) = true := by decide +kernel
abbrev s__law_walk : Stmt := topS 42
def n__law_walk : List Str := ["_law_wheel_here", "_law_state", "_law_steps", "_law_turn"]
noncomputable def g__law_walk : Gam := ⟨[("_law_step", 2, [], F__law_step)], [], [], [], []⟩
theorem c__law_walk : cSs (g__law_walk) 60 ⟨n__law_walk, defScope s__law_walk, fun _ => true⟩ (defBody s__law_walk) = some (B__law_walk) := by kernel_rfl
theorem z__law_walk : fnScB n__law_walk ["_law_wheel_here", "_law_state", "_law_steps"] (defScope s__law_walk) = true := by decide +kernel
abbrev s__law_common : Stmt := topS 45
def n__law_common : List Str := ["_law_one", "_law_other"]
noncomputable def g__law_common : Gam := ⟨[], [], [], [], []⟩
theorem c__law_common : cSs (g__law_common) 60 ⟨n__law_common, defScope s__law_common, fun _ => true⟩ (defBody s__law_common) = some (B__law_common) := by kernel_rfl
theorem z__law_common : fnScB n__law_common ["_law_one", "_law_other"] (defScope s__law_common) = true := by decide +kernel
abbrev s__law_factor : Stmt := topS 47
def n__law_factor : List Str := ["_law_modulus_here", "_law_state", "_law_other", "_law_factor_here", "_law_there", "_law_number"]
noncomputable def g__law_factor : Gam := ⟨[("_law_common", 2, [], F__law_common)], [], [], [], []⟩
theorem c__law_factor : cSs (g__law_factor) 60 ⟨n__law_factor, defScope s__law_factor, fun _ => true⟩ (defBody s__law_factor) = some (B__law_factor) := by kernel_rfl
theorem z__law_factor : fnScB n__law_factor ["_law_modulus_here", "_law_state", "_law_other"] (defScope s__law_factor) = true := by decide +kernel
abbrev s_is_whole : Stmt := topS 2
def n_is_whole : List Str := ["thing"]
noncomputable def g_is_whole : Gam := ⟨[], [], [], [], []⟩
theorem c_is_whole : cSs (g_is_whole) 60 ⟨n_is_whole, defScope s_is_whole, fun _ => true⟩ (defBody s_is_whole) = some (B_is_whole) := by kernel_rfl
theorem z_is_whole : fnScB n_is_whole ["thing"] (defScope s_is_whole) = true := by decide +kernel
abbrev s_are_numbers : Stmt := topS 13
def n_are_numbers : List Str := ["thing", "modulus", "one"]
noncomputable def g_are_numbers : Gam := ⟨[("is_whole", 1, [], F_is_whole)], [], [], [], []⟩
theorem c_are_numbers : cSs (g_are_numbers) 60 ⟨n_are_numbers, defScope s_are_numbers, fun _ => true⟩ (defBody s_are_numbers) = some (B_are_numbers) := by kernel_rfl
theorem z_are_numbers : fnScB n_are_numbers ["thing", "modulus"] (defScope s_are_numbers) = true := by decide +kernel
abbrev s_check_wheel : Stmt := topS 14
def n_check_wheel : List Str := ["wheel"]
noncomputable def g_check_wheel : Gam := ⟨[("is_whole", 1, [], F_is_whole), ("are_numbers", 2, [], F_are_numbers)], [("GREATEST", (.int 1000)), ("MOST", (.int 4))], [], [], []⟩
theorem c_check_wheel : cSs (g_check_wheel) 60 ⟨n_check_wheel, defScope s_check_wheel, fun _ => true⟩ (defBody s_check_wheel) = some (B_check_wheel) := by kernel_rfl
theorem z_check_wheel : fnScB n_check_wheel ["wheel"] (defScope s_check_wheel) = true := by decide +kernel
abbrev s_check_beginning : Stmt := topS 15
def n_check_beginning : List Str := ["wheel", "beginning"]
noncomputable def g_check_beginning : Gam := ⟨[("are_numbers", 2, [], F_are_numbers)], [], [], [], []⟩
theorem c_check_beginning : cSs (g_check_beginning) 60 ⟨n_check_beginning, defScope s_check_beginning, fun _ => true⟩ (defBody s_check_beginning) = some (B_check_beginning) := by kernel_rfl
theorem z_check_beginning : fnScB n_check_beginning ["wheel", "beginning"] (defScope s_check_beginning) = true := by decide +kernel
abbrev s_primes_of : Stmt := topS 5
def n_primes_of : List Str := ["number", "found", "prime"]
noncomputable def g_primes_of : Gam := ⟨[], [], [], [], []⟩
theorem c_primes_of : cSs (g_primes_of) 60 ⟨n_primes_of, defScope s_primes_of, fun _ => true⟩ (defBody s_primes_of) = some (B_primes_of) := by kernel_rfl
theorem z_primes_of : fnScB n_primes_of ["number"] (defScope s_primes_of) = true := by decide +kernel
abbrev s_times_in : Stmt := topS 26
def n_times_in : List Str := ["prime", "number", "many", "found"]
noncomputable def g_times_in : Gam := ⟨[], [], [], [], []⟩
theorem c_times_in : cSs (g_times_in) 60 ⟨n_times_in, defScope s_times_in, fun _ => true⟩ (defBody s_times_in) = some (B_times_in) := by kernel_rfl
theorem z_times_in : fnScB n_times_in ["prime", "number"] (defScope s_times_in) = true := by decide +kernel
abbrev s_common : Stmt := topS 3
def n_common : List Str := ["one", "other"]
noncomputable def g_common : Gam := ⟨[], [], [], [], []⟩
theorem c_common : cSs (g_common) 60 ⟨n_common, defScope s_common, fun _ => true⟩ (defBody s_common) = some (B_common) := by kernel_rfl
theorem z_common : fnScB n_common ["one", "other"] (defScope s_common) = true := by decide +kernel
abbrev s_least_common : Stmt := topS 4
def n_least_common : List Str := ["one", "other"]
noncomputable def g_least_common : Gam := ⟨[("common", 2, [], F_common)], [], [], [], []⟩
theorem c_least_common : cSs (g_least_common) 60 ⟨n_least_common, defScope s_least_common, fun _ => true⟩ (defBody s_least_common) = some (B_least_common) := by kernel_rfl
theorem z_least_common : fnScB n_least_common ["one", "other"] (defScope s_least_common) = true := by decide +kernel
abbrev s_round_parts : Stmt := topS 27
def n_round_parts : List Str := ["wheel", "modulus", "many", "multiple", "primes", "tail", "prime", "often", "found", "size", "bound", "pieces", "piece", "one", "high", "turn"]
noncomputable def g_round_parts : Gam := ⟨[("primes_of", 1, [], F_primes_of), ("times_in", 2, [], F_times_in), ("least_common", 2, [], F_least_common)], [], [], [], []⟩
theorem c_round_parts : cSs (g_round_parts) 60 ⟨n_round_parts, defScope s_round_parts, fun _ => true⟩ (defBody s_round_parts) = some (B_round_parts) := by kernel_rfl
theorem z_round_parts : fnScB n_round_parts ["wheel"] (defScope s_round_parts) = true := by decide +kernel
abbrev s_stepped : Stmt := topS 16
def n_stepped : List Str := ["wheel", "state", "modulus", "weights", "weight", "number"]
noncomputable def g_stepped : Gam := ⟨[], [], [], [], []⟩
theorem c_stepped : cSs (g_stepped) 60 ⟨n_stepped, defScope s_stepped, fun _ => true⟩ (defBody s_stepped) = some (B_stepped) := by kernel_rfl
theorem z_stepped : fnScB n_stepped ["wheel", "state"] (defScope s_stepped) = true := by decide +kernel
abbrev s_product : Stmt := topS 18
def n_product : List Str := ["modulus", "one", "other", "turned", "at", "row", "line", "mine", "theirs"]
noncomputable def g_product : Gam := ⟨[], [], [], [], []⟩
theorem c_product : cSs (g_product) 60 ⟨n_product, defScope s_product, fun _ => true⟩ (defBody s_product) = some (B_product) := by kernel_rfl
theorem z_product : fnScB n_product ["modulus", "one", "other"] (defScope s_product) = true := by decide +kernel
abbrev s_ladder_of : Stmt := topS 20
def n_ladder_of : List Str := ["modulus", "table", "many", "found"]
noncomputable def g_ladder_of : Gam := ⟨[("product", 3, [], F_product)], [], [], [], []⟩
theorem c_ladder_of : cSs (g_ladder_of) 60 ⟨n_ladder_of, defScope s_ladder_of, fun _ => true⟩ (defBody s_ladder_of) = some (B_ladder_of) := by kernel_rfl
theorem z_ladder_of : fnScB n_ladder_of ["modulus", "table", "many"] (defScope s_ladder_of) = true := by decide +kernel
abbrev s_table_of : Stmt := topS 17
def n_table_of : List Str := ["wheel", "many", "found", "row", "at"]
noncomputable def g_table_of : Gam := ⟨[], [], [], [], []⟩
theorem c_table_of : cSs (g_table_of) 60 ⟨n_table_of, defScope s_table_of, fun _ => true⟩ (defBody s_table_of) = some (B_table_of) := by kernel_rfl
theorem z_table_of : fnScB n_table_of ["wheel"] (defScope s_table_of) = true := by decide +kernel
abbrev s_led : Stmt := topS 19
def n_led : List Str := ["modulus", "table", "state", "row", "mine", "theirs"]
noncomputable def g_led : Gam := ⟨[], [], [], [], []⟩
theorem c_led : cSs (g_led) 60 ⟨n_led, defScope s_led, fun _ => true⟩ (defBody s_led) = some (B_led) := by kernel_rfl
theorem z_led : fnScB n_led ["modulus", "table", "state"] (defScope s_led) = true := by decide +kernel
abbrev s_led_on : Stmt := topS 21
def n_led_on : List Str := ["modulus", "ladder", "state", "many", "table"]
noncomputable def g_led_on : Gam := ⟨[("led", 3, [], F_led)], [], [], [], []⟩
theorem c_led_on : cSs (g_led_on) 60 ⟨n_led_on, defScope s_led_on, fun _ => true⟩ (defBody s_led_on) = some (B_led_on) := by kernel_rfl
theorem z_led_on : fnScB n_led_on ["modulus", "ladder", "state", "many"] (defScope s_led_on) = true := by decide +kernel
abbrev s_length_of : Stmt := topS 28
def n_length_of : List Str := ["modulus", "ladder", "state", "multiple", "primes", "found", "prime"]
noncomputable def g_length_of : Gam := ⟨[("led_on", 4, [false, false, true, false], F_led_on)], [], [], [], []⟩
theorem c_length_of : cSs (g_length_of) 60 ⟨n_length_of, defScope s_length_of, fun _ => true⟩ (defBody s_length_of) = some (B_length_of) := by kernel_rfl
theorem z_length_of : fnScB n_length_of ["modulus", "ladder", "state", "multiple", "primes"] (defScope s_length_of) = true := by decide +kernel
abbrev s_course_of : Stmt := topS 29
def n_course_of : List Str := ["wheel", "beginning", "multiple", "primes", "most", "states", "turn", "ladder", "length", "tail", "prime"]
noncomputable def g_course_of : Gam := ⟨[("round_parts", 1, [], F_round_parts), ("stepped", 2, [], F_stepped), ("ladder_of", 3, [], F_ladder_of), ("table_of", 1, [], F_table_of), ("length_of", 5, [], F_length_of), ("led_on", 4, [false, false, true, false], F_led_on)], [], [], [], []⟩
theorem c_course_of : cSs (g_course_of) 60 ⟨n_course_of, defScope s_course_of, fun _ => true⟩ (defBody s_course_of) = some (B_course_of) := by kernel_rfl
theorem z_course_of : fnScB n_course_of ["wheel", "beginning"] (defScope s_course_of) = true := by decide +kernel
abbrev s_factor_to : Stmt := topS 31
def n_factor_to : List Str := ["modulus", "state", "other", "factor", "number"]
noncomputable def g_factor_to : Gam := ⟨[("common", 2, [], F_common)], [], [], [], []⟩
theorem c_factor_to : cSs (g_factor_to) 60 ⟨n_factor_to, defScope s_factor_to, fun _ => true⟩ (defBody s_factor_to) = some (B_factor_to) := by kernel_rfl
theorem z_factor_to : fnScB n_factor_to ["modulus", "state", "other"] (defScope s_factor_to) = true := by decide +kernel
abbrev s_echo : Stmt := topS 32
def n_echo : List Str := ["wheel", "beginning", "tail", "length", "primes", "state", "ladder", "found", "factor", "prime", "less"]
noncomputable def g_echo : Gam := ⟨[("check_wheel", 1, [], F_check_wheel), ("check_beginning", 2, [], F_check_beginning), ("course_of", 2, [], F_course_of), ("ladder_of", 3, [], F_ladder_of), ("table_of", 1, [], F_table_of), ("factor_to", 3, [], F_factor_to), ("led_on", 4, [false, false, true, false], F_led_on)], [], [], [], []⟩
theorem c_echo : cSs (g_echo) 60 ⟨n_echo, defScope s_echo, fun _ => true⟩ (defBody s_echo) = some (B_echo) := by kernel_rfl
theorem z_echo : fnScB n_echo ["wheel", "beginning"] (defScope s_echo) = true := by decide +kernel
abbrev s__law_small_right : Stmt := topS 48
def n__law_small_right : List Str := ["_law_wheel_here", "_law_beginning", "_law_tail", "_law_length", "_law_state", "_law_here", "_law_steps", "_law_factor_here"]
noncomputable def g__law_small_right : Gam := ⟨[("_law_course", 2, [], F__law_course), ("_law_walk", 3, [], F__law_walk), ("_law_step", 2, [], F__law_step), ("_law_factor", 3, [], F__law_factor), ("echo", 2, [], F_echo)], [], [], [], []⟩
theorem c__law_small_right : cSs (g__law_small_right) 60 ⟨n__law_small_right, defScope s__law_small_right, fun _ => true⟩ (defBody s__law_small_right) = some (B__law_small_right) := by kernel_rfl
theorem z__law_small_right : fnScB n__law_small_right ["_law_wheel_here", "_law_beginning"] (defScope s__law_small_right) = true := by decide +kernel
abbrev s__law_modulus : Stmt := topS 38
def n__law_modulus : List Str := ["_law_number", "_law_some"]
noncomputable def g__law_modulus : Gam := ⟨[], [], [], [], []⟩
theorem c__law_modulus : cSs (g__law_modulus) 60 ⟨n__law_modulus, defScope s__law_modulus, fun _ => true⟩ (defBody s__law_modulus) = some (B__law_modulus) := by kernel_rfl
theorem z__law_modulus : fnScB n__law_modulus ["_law_number"] (defScope s__law_modulus) = true := by decide +kernel
abbrev s__law_wheel : Stmt := topS 39
def n__law_wheel : List Str := ["_law_script", "_law_by", "_law_most", "_law_cell", "_law_modulus_here", "_law_many", "_law_weights", "_law_at", "_law_beginning"]
noncomputable def g__law_wheel : Gam := ⟨[("_law_cell_at", 2, [], F__law_cell_at), ("_law_modulus", 1, [], F__law_modulus), ("_law_value", 2, [], F__law_value)], [], [], [], []⟩
theorem c__law_wheel : cSs (g__law_wheel) 60 ⟨n__law_wheel, defScope s__law_wheel, fun _ => true⟩ (defBody s__law_wheel) = some (B__law_wheel) := by kernel_rfl
theorem z__law_wheel : fnScB n__law_wheel ["_law_script", "_law_by", "_law_most"] (defScope s__law_wheel) = true := by decide +kernel
abbrev s_Course : Stmt := inClass (topS 24) 0
def n_Course : List Str := ["self", "tail", "length", "primes"]
noncomputable def g_Course : Gam := ⟨[], [], [], [], []⟩
theorem c_Course : cI g_Course 60 ⟨n_Course, defScope s_Course, fun _ => true⟩ (defBody s_Course) = some ([("tail", (vOf (bVar 1))), ("length", (vOf (bVar 2))), ("primes", (v1 dList (bVar 3)))] : List (Str × VE)) := by kernel_rfl
theorem z_Course : fnScB n_Course ["self", "tail", "length", "primes"] (defScope s_Course) = true := by decide +kernel
abbrev s_course : Stmt := topS 30
def n_course : List Str := ["wheel", "beginning", "tail", "length", "primes", "state"]
noncomputable def g_course : Gam := ⟨[("check_wheel", 1, [], F_check_wheel), ("check_beginning", 2, [], F_check_beginning), ("course_of", 2, [], F_course_of), ("Course", 3, [], F_Course)], [], [], [], []⟩
theorem c_course : cSs (g_course) 60 ⟨n_course, defScope s_course, fun _ => true⟩ (defBody s_course) = some (B_course) := by kernel_rfl
theorem z_course : fnScB n_course ["wheel", "beginning"] (defScope s_course) = true := by decide +kernel
abbrev s__law_whole : Stmt := topS 37
def n__law_whole : List Str := ["_law_number"]
noncomputable def g__law_whole : Gam := ⟨[], [], [], [], []⟩
theorem c__law_whole : cSs (g__law_whole) 60 ⟨n__law_whole, defScope s__law_whole, fun _ => true⟩ (defBody s__law_whole) = some (B__law_whole) := by kernel_rfl
theorem z__law_whole : fnScB n__law_whole ["_law_number"] (defScope s__law_whole) = true := by decide +kernel
abbrev s__law_mixed : Stmt := topS 43
def n__law_mixed : List Str := ["_law_wheel_here", "_law_one", "_law_other", "_law_modulus_here", "_law_weights", "_law_many", "_law_found", "_law_at", "_law_mine", "_law_far_here", "_law_theirs", "_law_lead", "_law_weight", "_law_place"]
noncomputable def g__law_mixed : Gam := ⟨[], [], [], [], []⟩
theorem c__law_mixed : cSs (g__law_mixed) 60 ⟨n__law_mixed, defScope s__law_mixed, fun _ => true⟩ (defBody s__law_mixed) = some (B__law_mixed) := by kernel_rfl
theorem z__law_mixed : fnScB n__law_mixed ["_law_wheel_here", "_law_one", "_law_other"] (defScope s__law_mixed) = true := by decide +kernel
abbrev s__law_far : Stmt := topS 44
def n__law_far : List Str := ["_law_wheel_here", "_law_state", "_law_steps", "_law_many", "_law_found", "_law_base", "_law_left", "_law_row", "_law_turn", "_law_there", "_law_far_here", "_law_at", "_law_often"]
noncomputable def g__law_far : Gam := ⟨[("_law_mixed", 3, [], F__law_mixed), ("_law_step", 2, [], F__law_step)], [], [], [], []⟩
theorem c__law_far : cSs (g__law_far) 60 ⟨n__law_far, defScope s__law_far, fun _ => true⟩ (defBody s__law_far) = some (B__law_far) := by kernel_rfl
theorem z__law_far : fnScB n__law_far ["_law_wheel_here", "_law_state", "_law_steps"] (defScope s__law_far) = true := by decide +kernel
abbrev s_law : Stmt := topS 49
def n_law : List Str := ["_law_script", "_law_wheel_here", "_law_beginning", "_law_found", "_law_some", "_law_one", "_law_state", "_law_there", "_law_prime"]
noncomputable def g_law : Gam := ⟨[("_law_small", 2, [], F__law_small), ("_law_small_right", 2, [], F__law_small_right), ("_law_wheel", 3, [], F__law_wheel), ("_law_value", 2, [], F__law_value), ("_law_cell_at", 2, [], F__law_cell_at), ("echo", 2, [], F_echo), ("course", 2, [], F_course), ("_law_whole", 1, [], F__law_whole), ("_law_far", 3, [], F__law_far), ("_law_factor", 3, [], F__law_factor)], [], [("Course", ["tail", "length", "primes"])], [], []⟩
theorem c_law : cLaw g_law 60 ⟨n_law, defScope s_law, fun _ => true⟩ "_law_script" (defBody s_law) = some B_law := by kernel_rfl
theorem z_law : fnScB n_law ["_law_script"] (defScope s_law) = true := by decide +kernel
set_option maxHeartbeats 0 in
theorem all_mk {l : PySem.W.OpenLaw} {w : World} {K : PySem.W.Frag} {h : Heap} {mg : Str → Option Value} {fa : Addr} (X : K.In h) (G : h.Ns mainGlobals mg) (hfa : mg "law" = some (.ref fa)) {C_Course : Addr} (a_Course : PySem.W.nsIn K mainGlobals "Course" = some (some (.ref C_Course))) (pg_Course : PySem.W.plainGet K C_Course Str.empty = true) (hd_Course : PySem.W.hasDictIn K C_Course = true) (po_Course : PySem.W.plainOver K C_Course = true) (sa_Course : PySem.W.findIn K (.ref C_Course) "__setattr__" = some (some (.builtin "object.__setattr__"))) (nf_Course_length : PySem.W.findIn K (.ref C_Course) "length" = some none) (nf_Course_primes : PySem.W.findIn K (.ref C_Course) "primes" = some none) (nf_Course_tail : PySem.W.findIn K (.ref C_Course) "tail" = some none) {f_Course : Addr} (d_Course : InAt K C_Course f_Course "__init__" "Course.__init__" s_Course) (mk_Course : PySem.W.makesIn K C_Course = true) (kc_Course : PySem.W.keepIn K (.ref C_Course) = true) (d__law_cell_at : DefAt K "_law_cell_at" s__law_cell_at) (d__law_draw : DefAt K "_law_draw" s__law_draw) (d__law_value : DefAt K "_law_value" s__law_value) (d__law_small : DefAt K "_law_small" s__law_small) (d__law_step : DefAt K "_law_step" s__law_step) (d__law_course : DefAt K "_law_course" s__law_course) (d__law_walk : DefAt K "_law_walk" s__law_walk) (d__law_common : DefAt K "_law_common" s__law_common) (d__law_factor : DefAt K "_law_factor" s__law_factor) (d_is_whole : DefAt K "is_whole" s_is_whole) (d_are_numbers : DefAt K "are_numbers" s_are_numbers) (d_check_wheel : DefAt K "check_wheel" s_check_wheel) (d_check_beginning : DefAt K "check_beginning" s_check_beginning) (d_primes_of : DefAt K "primes_of" s_primes_of) (d_times_in : DefAt K "times_in" s_times_in) (d_common : DefAt K "common" s_common) (d_least_common : DefAt K "least_common" s_least_common) (d_round_parts : DefAt K "round_parts" s_round_parts) (d_stepped : DefAt K "stepped" s_stepped) (d_product : DefAt K "product" s_product) (d_ladder_of : DefAt K "ladder_of" s_ladder_of) (d_table_of : DefAt K "table_of" s_table_of) (d_led : DefAt K "led" s_led) (d_led_on : DefAt K "led_on" s_led_on) (d_length_of : DefAt K "length_of" s_length_of) (d_course_of : DefAt K "course_of" s_course_of) (d_factor_to : DefAt K "factor_to" s_factor_to) (d_echo : DefAt K "echo" s_echo) (d__law_small_right : DefAt K "_law_small_right" s__law_small_right) (d__law_modulus : DefAt K "_law_modulus" s__law_modulus) (d__law_wheel : DefAt K "_law_wheel" s__law_wheel) (d_course : DefAt K "course" s_course) (d__law_whole : DefAt K "_law_whole" s__law_whole) (d__law_mixed : DefAt K "_law_mixed" s__law_mixed) (d__law_far : DefAt K "_law_far" s__law_far) (d_law : DefAt K "law" s_law) {t_GREATEST : Tok} (v_GREATEST : PySem.W.nsIn K mainGlobals "GREATEST" = some (some (.int 1000 t_GREATEST))) {t_MOST : Tok} (v_MOST : PySem.W.nsIn K mainGlobals "MOST" = some (some (.int 4 t_MOST))) (z_len : PySem.W.nsIn K mainGlobals "len" = some none) (z_abs : PySem.W.nsIn K mainGlobals "abs" = some none) (z_int : PySem.W.nsIn K mainGlobals "int" = some none) (z_sum : PySem.W.nsIn K mainGlobals "sum" = some none) (z_any : PySem.W.nsIn K mainGlobals "any" = some none) (z_all : PySem.W.nsIn K mainGlobals "all" = some none) (z_list : PySem.W.nsIn K mainGlobals "list" = some none) (z_tuple : PySem.W.nsIn K mainGlobals "tuple" = some none) (z_max : PySem.W.nsIn K mainGlobals "max" = some none) (z_min : PySem.W.nsIn K mainGlobals "min" = some none) (z_isinstance : PySem.W.nsIn K mainGlobals "isinstance" = some none) (z_bool : PySem.W.nsIn K mainGlobals "bool" = some none) (z_range : PySem.W.nsIn K mainGlobals "range" = some none) (z_zip : PySem.W.nsIn K mainGlobals "zip" = some none) (z_enumerate : PySem.W.nsIn K mainGlobals "enumerate" = some none) (z_sorted : PySem.W.nsIn K mainGlobals "sorted" = some none) (z_set : PySem.W.nsIn K mainGlobals "set" = some none) (z_str : PySem.W.nsIn K mainGlobals "str" = some none) :
    ∃ fd : FuncData, (∀ (s : Shared) (v : Value), BindsTo s fd ⟨[v], []⟩ [("_law_script", v)]) ∧ ∀ base : Heap, K.In base → base.Ns mainGlobals mg → FnOk l.prog w K mg base CX0 7 fa fd ["_law_script"] (spLaw K) := by
  have hb : ∀ x ∈ bltNames, mg x = none := by
    intro x hx
    simp only [bltNames, List.mem_cons, List.not_mem_nil, or_false] at hx
    rcases hx with rfl | rfl | rfl | rfl | rfl | rfl | rfl | rfl | rfl | rfl | rfl | rfl | rfl | rfl | rfl | rfl | rfl | rfl
    · exact PySem.W.mg_none_of X G z_len
    · exact PySem.W.mg_none_of X G z_abs
    · exact PySem.W.mg_none_of X G z_int
    · exact PySem.W.mg_none_of X G z_sum
    · exact PySem.W.mg_none_of X G z_any
    · exact PySem.W.mg_none_of X G z_all
    · exact PySem.W.mg_none_of X G z_list
    · exact PySem.W.mg_none_of X G z_tuple
    · exact PySem.W.mg_none_of X G z_max
    · exact PySem.W.mg_none_of X G z_min
    · exact PySem.W.mg_none_of X G z_isinstance
    · exact PySem.W.mg_none_of X G z_bool
    · exact PySem.W.mg_none_of X G z_range
    · exact PySem.W.mg_none_of X G z_zip
    · exact PySem.W.mg_none_of X G z_enumerate
    · exact PySem.W.mg_none_of X G z_sorted
    · exact PySem.W.mg_none_of X G z_set
    · exact PySem.W.mg_none_of X G z_str
  have m_GREATEST := PySem.W.mg_of X G v_GREATEST
  have m_MOST := PySem.W.mg_of X G v_MOST
  have g_Course := PySem.W.mg_of X G a_Course
  have cl_Course : Cls K C_Course := ⟨pg_Course, hd_Course, po_Course, sa_Course⟩
  have hcl : ∀ f c, (clsOf [("Course", ["tail", "length", "primes"])] f).contains c = true → ∀ Ca, mg c = some (.ref Ca) → Cls K Ca ∧ NoAttr K Ca f := cls_cons g_Course cl_Course (List.forall_mem_cons.mpr ⟨nf_Course_tail, (List.forall_mem_cons.mpr ⟨nf_Course_length, (List.forall_mem_cons.mpr ⟨nf_Course_primes, (fun _ z => nomatch z)⟩)⟩)⟩) (cls_nil)
  have e__law_cell_at : ∀ base : Heap, Good l.prog w K mg base 1 "_law_cell_at" 2 F__law_cell_at := fun base => good_of X G d__law_cell_at z__law_cell_at c__law_cell_at (glob_nil hb con_nil cls_nil isi_nil) (fun _ _ _ _ _ _ us hl => match us, hl with | [_, _], _ => rfl)
  have e__law_draw : ∀ base : Heap, Good l.prog w K mg base 1 "_law_draw" 3 F__law_draw := fun base => good_of X G d__law_draw z__law_draw c__law_draw (glob_nil hb con_nil cls_nil isi_nil) (fun _ _ _ _ _ _ us hl => match us, hl with | [_, _, _], _ => rfl)
  have e__law_value : ∀ base : Heap, Good l.prog w K mg base 2 "_law_value" 2 F__law_value := fun base => good_of X G d__law_value z__law_value c__law_value (glob_cons (e__law_draw base) (glob_nil hb con_nil cls_nil isi_nil)) (fun _ _ _ _ _ _ us hl => match us, hl with | [_, _], _ => rfl)
  have e__law_small : ∀ base : Heap, Good l.prog w K mg base 3 "_law_small" 2 F__law_small := fun base => good_of X G d__law_small z__law_small c__law_small (glob_cons ((e__law_cell_at base).mono (by decide)) (glob_cons (e__law_value base) (glob_nil hb con_nil cls_nil isi_nil))) (fun _ _ _ _ _ _ us hl => match us, hl with | [_, _], _ => rfl)
  have e__law_step : ∀ base : Heap, Good l.prog w K mg base 1 "_law_step" 2 F__law_step := fun base => good_of X G d__law_step z__law_step c__law_step (glob_nil hb con_nil cls_nil isi_nil) (fun _ _ _ _ _ _ us hl => match us, hl with | [_, _], _ => rfl)
  have e__law_course : ∀ base : Heap, Good l.prog w K mg base 2 "_law_course" 2 F__law_course := fun base => good_of X G d__law_course z__law_course c__law_course (glob_cons (e__law_step base) (glob_nil hb con_nil cls_nil isi_nil)) (fun _ _ _ _ _ _ us hl => match us, hl with | [_, _], _ => rfl)
  have e__law_walk : ∀ base : Heap, Good l.prog w K mg base 2 "_law_walk" 3 F__law_walk := fun base => good_of X G d__law_walk z__law_walk c__law_walk (glob_cons (e__law_step base) (glob_nil hb con_nil cls_nil isi_nil)) (fun _ _ _ _ _ _ us hl => match us, hl with | [_, _, _], _ => rfl)
  have e__law_common : ∀ base : Heap, Good l.prog w K mg base 1 "_law_common" 2 F__law_common := fun base => good_of X G d__law_common z__law_common c__law_common (glob_nil hb con_nil cls_nil isi_nil) (fun _ _ _ _ _ _ us hl => match us, hl with | [_, _], _ => rfl)
  have e__law_factor : ∀ base : Heap, Good l.prog w K mg base 2 "_law_factor" 3 F__law_factor := fun base => good_of X G d__law_factor z__law_factor c__law_factor (glob_cons (e__law_common base) (glob_nil hb con_nil cls_nil isi_nil)) (fun _ _ _ _ _ _ us hl => match us, hl with | [_, _, _], _ => rfl)
  have e_is_whole : ∀ base : Heap, Good l.prog w K mg base 1 "is_whole" 1 F_is_whole := fun base => good_of X G d_is_whole z_is_whole c_is_whole (glob_nil hb con_nil cls_nil isi_nil) (fun _ _ _ _ _ _ us hl => match us, hl with | [_], _ => rfl)
  have e_are_numbers : ∀ base : Heap, Good l.prog w K mg base 2 "are_numbers" 2 F_are_numbers := fun base => good_of X G d_are_numbers z_are_numbers c_are_numbers (glob_cons (e_is_whole base) (glob_nil hb con_nil cls_nil isi_nil)) (fun _ _ _ _ _ _ us hl => match us, hl with | [_, _], _ => rfl)
  have e_check_wheel : ∀ base : Heap, Good l.prog w K mg base 3 "check_wheel" 1 F_check_wheel := fun base => good_of X G d_check_wheel z_check_wheel c_check_wheel (glob_cons ((e_is_whole base).mono (by decide)) (glob_cons (e_are_numbers base) (glob_nil hb (con_cons m_GREATEST (con_cons m_MOST con_nil)) cls_nil isi_nil))) (fun _ _ _ _ _ _ us hl => match us, hl with | [_], _ => rfl)
  have e_check_beginning : ∀ base : Heap, Good l.prog w K mg base 3 "check_beginning" 2 F_check_beginning := fun base => good_of X G d_check_beginning z_check_beginning c_check_beginning (glob_cons (e_are_numbers base) (glob_nil hb con_nil cls_nil isi_nil)) (fun _ _ _ _ _ _ us hl => match us, hl with | [_, _], _ => rfl)
  have e_primes_of : ∀ base : Heap, Good l.prog w K mg base 1 "primes_of" 1 F_primes_of := fun base => good_of X G d_primes_of z_primes_of c_primes_of (glob_nil hb con_nil cls_nil isi_nil) (fun _ _ _ _ _ _ us hl => match us, hl with | [_], _ => rfl)
  have e_times_in : ∀ base : Heap, Good l.prog w K mg base 1 "times_in" 2 F_times_in := fun base => good_of X G d_times_in z_times_in c_times_in (glob_nil hb con_nil cls_nil isi_nil) (fun _ _ _ _ _ _ us hl => match us, hl with | [_, _], _ => rfl)
  have e_common : ∀ base : Heap, Good l.prog w K mg base 1 "common" 2 F_common := fun base => good_of X G d_common z_common c_common (glob_nil hb con_nil cls_nil isi_nil) (fun _ _ _ _ _ _ us hl => match us, hl with | [_, _], _ => rfl)
  have e_least_common : ∀ base : Heap, Good l.prog w K mg base 2 "least_common" 2 F_least_common := fun base => good_of X G d_least_common z_least_common c_least_common (glob_cons (e_common base) (glob_nil hb con_nil cls_nil isi_nil)) (fun _ _ _ _ _ _ us hl => match us, hl with | [_, _], _ => rfl)
  have e_round_parts : ∀ base : Heap, Good l.prog w K mg base 3 "round_parts" 1 F_round_parts := fun base => good_of X G d_round_parts z_round_parts c_round_parts (glob_cons ((e_primes_of base).mono (by decide)) (glob_cons ((e_times_in base).mono (by decide)) (glob_cons (e_least_common base) (glob_nil hb con_nil cls_nil isi_nil)))) (fun _ _ _ _ _ _ us hl => match us, hl with | [_], _ => rfl)
  have e_stepped : ∀ base : Heap, Good l.prog w K mg base 1 "stepped" 2 F_stepped := fun base => good_of X G d_stepped z_stepped c_stepped (glob_nil hb con_nil cls_nil isi_nil) (fun _ _ _ _ _ _ us hl => match us, hl with | [_, _], _ => rfl)
  have e_product : ∀ base : Heap, Good l.prog w K mg base 1 "product" 3 F_product := fun base => good_of X G d_product z_product c_product (glob_nil hb con_nil cls_nil isi_nil) (fun _ _ _ _ _ _ us hl => match us, hl with | [_, _, _], _ => rfl)
  have e_ladder_of : ∀ base : Heap, Good l.prog w K mg base 2 "ladder_of" 3 F_ladder_of := fun base => good_of X G d_ladder_of z_ladder_of c_ladder_of (glob_cons (e_product base) (glob_nil hb con_nil cls_nil isi_nil)) (fun _ _ _ _ _ _ us hl => match us, hl with | [_, _, _], _ => rfl)
  have e_table_of : ∀ base : Heap, Good l.prog w K mg base 1 "table_of" 1 F_table_of := fun base => good_of X G d_table_of z_table_of c_table_of (glob_nil hb con_nil cls_nil isi_nil) (fun _ _ _ _ _ _ us hl => match us, hl with | [_], _ => rfl)
  have e_led : ∀ base : Heap, Good l.prog w K mg base 1 "led" 3 F_led := fun base => good_of X G d_led z_led c_led (glob_nil hb con_nil cls_nil isi_nil) (fun _ _ _ _ _ _ us hl => match us, hl with | [_, _, _], _ => rfl)
  have e_led_on : ∀ base : Heap, Good l.prog w K mg base 2 "led_on" 4 F_led_on := fun base => good_of X G d_led_on z_led_on c_led_on (glob_cons (e_led base) (glob_nil hb con_nil cls_nil isi_nil)) (fun _ _ _ _ _ _ us hl => match us, hl with | [_, _, _, _], _ => rfl)
  have e_length_of : ∀ base : Heap, Good l.prog w K mg base 3 "length_of" 5 F_length_of := fun base => good_of X G d_length_of z_length_of c_length_of (glob_cons (e_led_on base) (glob_nil hb con_nil cls_nil isi_nil)) (fun _ _ _ _ _ _ us hl => match us, hl with | [_, _, _, _, _], _ => rfl)
  have e_course_of : ∀ base : Heap, Good l.prog w K mg base 4 "course_of" 2 F_course_of := fun base => good_of X G d_course_of z_course_of c_course_of (glob_cons (e_round_parts base) (glob_cons ((e_stepped base).mono (by decide)) (glob_cons ((e_ladder_of base).mono (by decide)) (glob_cons ((e_table_of base).mono (by decide)) (glob_cons (e_length_of base) (glob_cons ((e_led_on base).mono (by decide)) (glob_nil hb con_nil cls_nil isi_nil))))))) (fun _ _ _ _ _ _ us hl => match us, hl with | [_, _], _ => rfl)
  have e_factor_to : ∀ base : Heap, Good l.prog w K mg base 2 "factor_to" 3 F_factor_to := fun base => good_of X G d_factor_to z_factor_to c_factor_to (glob_cons (e_common base) (glob_nil hb con_nil cls_nil isi_nil)) (fun _ _ _ _ _ _ us hl => match us, hl with | [_, _, _], _ => rfl)
  have e_echo : ∀ base : Heap, Good l.prog w K mg base 5 "echo" 2 F_echo := fun base => good_of X G d_echo z_echo c_echo (glob_cons ((e_check_wheel base).mono (by decide)) (glob_cons ((e_check_beginning base).mono (by decide)) (glob_cons (e_course_of base) (glob_cons ((e_ladder_of base).mono (by decide)) (glob_cons ((e_table_of base).mono (by decide)) (glob_cons ((e_factor_to base).mono (by decide)) (glob_cons ((e_led_on base).mono (by decide)) (glob_nil hb con_nil cls_nil isi_nil)))))))) (fun _ _ _ _ _ _ us hl => match us, hl with | [_, _], _ => rfl)
  have e__law_small_right : ∀ base : Heap, Good l.prog w K mg base 6 "_law_small_right" 2 F__law_small_right := fun base => good_of X G d__law_small_right z__law_small_right c__law_small_right (glob_cons ((e__law_course base).mono (by decide)) (glob_cons ((e__law_walk base).mono (by decide)) (glob_cons ((e__law_step base).mono (by decide)) (glob_cons ((e__law_factor base).mono (by decide)) (glob_cons (e_echo base) (glob_nil hb con_nil cls_nil isi_nil)))))) (fun _ _ _ _ _ _ us hl => match us, hl with | [_, _], _ => rfl)
  have e__law_modulus : ∀ base : Heap, Good l.prog w K mg base 1 "_law_modulus" 1 F__law_modulus := fun base => good_of X G d__law_modulus z__law_modulus c__law_modulus (glob_nil hb con_nil cls_nil isi_nil) (fun _ _ _ _ _ _ us hl => match us, hl with | [_], _ => rfl)
  have e__law_wheel : ∀ base : Heap, Good l.prog w K mg base 3 "_law_wheel" 3 F__law_wheel := fun base => good_of X G d__law_wheel z__law_wheel c__law_wheel (glob_cons ((e__law_cell_at base).mono (by decide)) (glob_cons ((e__law_modulus base).mono (by decide)) (glob_cons (e__law_value base) (glob_nil hb con_nil cls_nil isi_nil)))) (fun _ _ _ _ _ _ us hl => match us, hl with | [_, _, _], _ => rfl)
  have e_Course : ∀ base : Heap, Good l.prog w K mg base 2 "Course" 3 F_Course := fun base => goodI_of g_Course cl_Course d_Course mk_Course kc_Course z_Course c_Course (glob_nil hb con_nil cls_nil isi_nil) (List.forall_mem_cons.mpr ⟨nf_Course_tail, (List.forall_mem_cons.mpr ⟨nf_Course_length, (List.forall_mem_cons.mpr ⟨nf_Course_primes, (fun _ z => nomatch z)⟩)⟩)⟩) (fun _ _ _ _ _ _ us hl => match us, hl with | [_, _, _, _], _ => rfl)
  have e_course : ∀ base : Heap, Good l.prog w K mg base 5 "course" 2 F_course := fun base => good_of X G d_course z_course c_course (glob_cons ((e_check_wheel base).mono (by decide)) (glob_cons ((e_check_beginning base).mono (by decide)) (glob_cons (e_course_of base) (glob_cons ((e_Course base).mono (by decide)) (glob_nil hb con_nil cls_nil isi_nil))))) (fun _ _ _ _ _ _ us hl => match us, hl with | [_, _], _ => rfl)
  have e__law_whole : ∀ base : Heap, Good l.prog w K mg base 1 "_law_whole" 1 F__law_whole := fun base => good_of X G d__law_whole z__law_whole c__law_whole (glob_nil hb con_nil cls_nil isi_nil) (fun _ _ _ _ _ _ us hl => match us, hl with | [_], _ => rfl)
  have e__law_mixed : ∀ base : Heap, Good l.prog w K mg base 1 "_law_mixed" 3 F__law_mixed := fun base => good_of X G d__law_mixed z__law_mixed c__law_mixed (glob_nil hb con_nil cls_nil isi_nil) (fun _ _ _ _ _ _ us hl => match us, hl with | [_, _, _], _ => rfl)
  have e__law_far : ∀ base : Heap, Good l.prog w K mg base 2 "_law_far" 3 F__law_far := fun base => good_of X G d__law_far z__law_far c__law_far (glob_cons (e__law_mixed base) (glob_cons (e__law_step base) (glob_nil hb con_nil cls_nil isi_nil))) (fun _ _ _ _ _ _ us hl => match us, hl with | [_, _, _], _ => rfl)
  obtain ⟨f, oc, od, an, sl, kV, dc, pm, cd, ct, a2, l2, c2, k2⟩ := d_law
  have e := hfa.symm.trans (PySem.W.mg_of X G a2)
  cases e
  have F2 := fun_mk (st := s_law) l2 c2 k2
  exact ⟨_, fun s v => .of_eq rfl, fun base _ _ => law_ok F2 z_law c_law (glob_cons ((e__law_small base).mono (by decide)) (glob_cons (e__law_small_right base) (glob_cons ((e__law_wheel base).mono (by decide)) (glob_cons ((e__law_value base).mono (by decide)) (glob_cons ((e__law_cell_at base).mono (by decide)) (glob_cons ((e_echo base).mono (by decide)) (glob_cons ((e_course base).mono (by decide)) (glob_cons ((e__law_whole base).mono (by decide)) (glob_cons ((e__law_far base).mono (by decide)) (glob_cons ((e__law_factor base).mono (by decide)) (glob_nil hb con_nil hcl isi_nil))))))))))) (fun ns hn => Den.law_k10 ns hn)⟩
end Rw
open PySem PySem.W PyProof.Rows
set_option maxRecDepth 100000 in
set_option maxHeartbeats 0 in
theorem PySem.Challenge.cw_sumwheel_k10_whole_echo_holds : PySem.Challenge.rw_sumwheel_k10_whole_echo.Holds := by
  w_on; o_law; k_head; (case hw => w_witness2)
  k_fill
  refine L2.walk_of (l := PySem.Challenge.rw_sumwheel_k10_whole_echo) (n := 63) (k := 7) (x := "_law_script") (CX := fun _ => L2.CX0) (sp := fun w => Den.spLaw _) rfl (by decide) rfl ⟨rfl, by decide, by decide⟩ (fun w h Y => PySem.W.kIn_of Y) ?F (fun _ _ a ns hl _ hS => ⟨a, ns, rfl, hS, hl, fun _ => rfl⟩) (fun _ _ _ _ _ h => h)
  case F =>
    intro w mg fa h KX G hmg
    refine' Rw.all_mk KX G hmg ?a_Course ?pg_Course ?hd_Course ?po_Course ?sa_Course ?nf_Course_length ?nf_Course_primes ?nf_Course_tail (Den.InAt.mk' ?a_i_Course ?i_i_Course ?l_i_Course ?c_i_Course ?k_i_Course) ?mk_Course ?kc_Course (Den.DefAt.mk ?a__law_cell_at ?l__law_cell_at ?c__law_cell_at ?k__law_cell_at) (Den.DefAt.mk ?a__law_draw ?l__law_draw ?c__law_draw ?k__law_draw) (Den.DefAt.mk ?a__law_value ?l__law_value ?c__law_value ?k__law_value) (Den.DefAt.mk ?a__law_small ?l__law_small ?c__law_small ?k__law_small) (Den.DefAt.mk ?a__law_step ?l__law_step ?c__law_step ?k__law_step) (Den.DefAt.mk ?a__law_course ?l__law_course ?c__law_course ?k__law_course) (Den.DefAt.mk ?a__law_walk ?l__law_walk ?c__law_walk ?k__law_walk) (Den.DefAt.mk ?a__law_common ?l__law_common ?c__law_common ?k__law_common) (Den.DefAt.mk ?a__law_factor ?l__law_factor ?c__law_factor ?k__law_factor) (Den.DefAt.mk ?a_is_whole ?l_is_whole ?c_is_whole ?k_is_whole) (Den.DefAt.mk ?a_are_numbers ?l_are_numbers ?c_are_numbers ?k_are_numbers) (Den.DefAt.mk ?a_check_wheel ?l_check_wheel ?c_check_wheel ?k_check_wheel) (Den.DefAt.mk ?a_check_beginning ?l_check_beginning ?c_check_beginning ?k_check_beginning) (Den.DefAt.mk ?a_primes_of ?l_primes_of ?c_primes_of ?k_primes_of) (Den.DefAt.mk ?a_times_in ?l_times_in ?c_times_in ?k_times_in) (Den.DefAt.mk ?a_common ?l_common ?c_common ?k_common) (Den.DefAt.mk ?a_least_common ?l_least_common ?c_least_common ?k_least_common) (Den.DefAt.mk ?a_round_parts ?l_round_parts ?c_round_parts ?k_round_parts) (Den.DefAt.mk ?a_stepped ?l_stepped ?c_stepped ?k_stepped) (Den.DefAt.mk ?a_product ?l_product ?c_product ?k_product) (Den.DefAt.mk ?a_ladder_of ?l_ladder_of ?c_ladder_of ?k_ladder_of) (Den.DefAt.mk ?a_table_of ?l_table_of ?c_table_of ?k_table_of) (Den.DefAt.mk ?a_led ?l_led ?c_led ?k_led) (Den.DefAt.mk ?a_led_on ?l_led_on ?c_led_on ?k_led_on) (Den.DefAt.mk ?a_length_of ?l_length_of ?c_length_of ?k_length_of) (Den.DefAt.mk ?a_course_of ?l_course_of ?c_course_of ?k_course_of) (Den.DefAt.mk ?a_factor_to ?l_factor_to ?c_factor_to ?k_factor_to) (Den.DefAt.mk ?a_echo ?l_echo ?c_echo ?k_echo) (Den.DefAt.mk ?a__law_small_right ?l__law_small_right ?c__law_small_right ?k__law_small_right) (Den.DefAt.mk ?a__law_modulus ?l__law_modulus ?c__law_modulus ?k__law_modulus) (Den.DefAt.mk ?a__law_wheel ?l__law_wheel ?c__law_wheel ?k__law_wheel) (Den.DefAt.mk ?a_course ?l_course ?c_course ?k_course) (Den.DefAt.mk ?a__law_whole ?l__law_whole ?c__law_whole ?k__law_whole) (Den.DefAt.mk ?a__law_mixed ?l__law_mixed ?c__law_mixed ?k__law_mixed) (Den.DefAt.mk ?a__law_far ?l__law_far ?c__law_far ?k__law_far) (Den.DefAt.mk ?a_law ?l_law ?c_law ?k_law) ?v_GREATEST ?v_MOST ?z_len ?z_abs ?z_int ?z_sum ?z_any ?z_all ?z_list ?z_tuple ?z_max ?z_min ?z_isinstance ?z_bool ?z_range ?z_zip ?z_enumerate ?z_sorted ?z_set ?z_str
    (case a_Course => k_is)
    (case pg_Course => k_is)
    (case hd_Course => k_is)
    (case po_Course => k_is)
    (case sa_Course => k_is)
    (case nf_Course_length => k_is)
    (case nf_Course_primes => k_is)
    (case nf_Course_tail => k_is)
    (case a_i_Course => k_is)
    (case i_i_Course => k_is)
    (case l_i_Course => k_is)
    (case c_i_Course => k_is)
    (case k_i_Course => k_is)
    (case mk_Course => k_is)
    (case kc_Course => k_is)
    (case a__law_cell_at => k_is)
    (case l__law_cell_at => k_is)
    (case c__law_cell_at => k_is)
    (case k__law_cell_at => k_is)
    (case a__law_draw => k_is)
    (case l__law_draw => k_is)
    (case c__law_draw => k_is)
    (case k__law_draw => k_is)
    (case a__law_value => k_is)
    (case l__law_value => k_is)
    (case c__law_value => k_is)
    (case k__law_value => k_is)
    (case a__law_small => k_is)
    (case l__law_small => k_is)
    (case c__law_small => k_is)
    (case k__law_small => k_is)
    (case a__law_step => k_is)
    (case l__law_step => k_is)
    (case c__law_step => k_is)
    (case k__law_step => k_is)
    (case a__law_course => k_is)
    (case l__law_course => k_is)
    (case c__law_course => k_is)
    (case k__law_course => k_is)
    (case a__law_walk => k_is)
    (case l__law_walk => k_is)
    (case c__law_walk => k_is)
    (case k__law_walk => k_is)
    (case a__law_common => k_is)
    (case l__law_common => k_is)
    (case c__law_common => k_is)
    (case k__law_common => k_is)
    (case a__law_factor => k_is)
    (case l__law_factor => k_is)
    (case c__law_factor => k_is)
    (case k__law_factor => k_is)
    (case a_is_whole => k_is)
    (case l_is_whole => k_is)
    (case c_is_whole => k_is)
    (case k_is_whole => k_is)
    (case a_are_numbers => k_is)
    (case l_are_numbers => k_is)
    (case c_are_numbers => k_is)
    (case k_are_numbers => k_is)
    (case a_check_wheel => k_is)
    (case l_check_wheel => k_is)
    (case c_check_wheel => k_is)
    (case k_check_wheel => k_is)
    (case a_check_beginning => k_is)
    (case l_check_beginning => k_is)
    (case c_check_beginning => k_is)
    (case k_check_beginning => k_is)
    (case a_primes_of => k_is)
    (case l_primes_of => k_is)
    (case c_primes_of => k_is)
    (case k_primes_of => k_is)
    (case a_times_in => k_is)
    (case l_times_in => k_is)
    (case c_times_in => k_is)
    (case k_times_in => k_is)
    (case a_common => k_is)
    (case l_common => k_is)
    (case c_common => k_is)
    (case k_common => k_is)
    (case a_least_common => k_is)
    (case l_least_common => k_is)
    (case c_least_common => k_is)
    (case k_least_common => k_is)
    (case a_round_parts => k_is)
    (case l_round_parts => k_is)
    (case c_round_parts => k_is)
    (case k_round_parts => k_is)
    (case a_stepped => k_is)
    (case l_stepped => k_is)
    (case c_stepped => k_is)
    (case k_stepped => k_is)
    (case a_product => k_is)
    (case l_product => k_is)
    (case c_product => k_is)
    (case k_product => k_is)
    (case a_ladder_of => k_is)
    (case l_ladder_of => k_is)
    (case c_ladder_of => k_is)
    (case k_ladder_of => k_is)
    (case a_table_of => k_is)
    (case l_table_of => k_is)
    (case c_table_of => k_is)
    (case k_table_of => k_is)
    (case a_led => k_is)
    (case l_led => k_is)
    (case c_led => k_is)
    (case k_led => k_is)
    (case a_led_on => k_is)
    (case l_led_on => k_is)
    (case c_led_on => k_is)
    (case k_led_on => k_is)
    (case a_length_of => k_is)
    (case l_length_of => k_is)
    (case c_length_of => k_is)
    (case k_length_of => k_is)
    (case a_course_of => k_is)
    (case l_course_of => k_is)
    (case c_course_of => k_is)
    (case k_course_of => k_is)
    (case a_factor_to => k_is)
    (case l_factor_to => k_is)
    (case c_factor_to => k_is)
    (case k_factor_to => k_is)
    (case a_echo => k_is)
    (case l_echo => k_is)
    (case c_echo => k_is)
    (case k_echo => k_is)
    (case a__law_small_right => k_is)
    (case l__law_small_right => k_is)
    (case c__law_small_right => k_is)
    (case k__law_small_right => k_is)
    (case a__law_modulus => k_is)
    (case l__law_modulus => k_is)
    (case c__law_modulus => k_is)
    (case k__law_modulus => k_is)
    (case a__law_wheel => k_is)
    (case l__law_wheel => k_is)
    (case c__law_wheel => k_is)
    (case k__law_wheel => k_is)
    (case a_course => k_is)
    (case l_course => k_is)
    (case c_course => k_is)
    (case k_course => k_is)
    (case a__law_whole => k_is)
    (case l__law_whole => k_is)
    (case c__law_whole => k_is)
    (case k__law_whole => k_is)
    (case a__law_mixed => k_is)
    (case l__law_mixed => k_is)
    (case c__law_mixed => k_is)
    (case k__law_mixed => k_is)
    (case a__law_far => k_is)
    (case l__law_far => k_is)
    (case c__law_far => k_is)
    (case k__law_far => k_is)
    (case a_law => k_is)
    (case l_law => k_is)
    (case c_law => k_is)
    (case k_law => k_is)
    (case v_GREATEST => k_is)
    (case v_MOST => k_is)
    (case z_len => k_is)
    (case z_abs => k_is)
    (case z_int => k_is)
    (case z_sum => k_is)
    (case z_any => k_is)
    (case z_all => k_is)
    (case z_list => k_is)
    (case z_tuple => k_is)
    (case z_max => k_is)
    (case z_min => k_is)
    (case z_isinstance => k_is)
    (case z_bool => k_is)
    (case z_range => k_is)
    (case z_zip => k_is)
    (case z_enumerate => k_is)
    (case z_sorted => k_is)
    (case z_set => k_is)
    (case z_str => k_is)
